import PyProof.Rows.All
import KE.KeyNested
import KE.OsRunLaw
import PySem.Challenge.RW_lyinghouse_k89_errors_keep_any_value
import HandS.ForMost
import HandS.Wide
import HandS.Flow
import HandS.IsInst
import HandS.TupAny
import HandS.Style
import HandS.Deep
import HandS.Conv
import HandS.Exc
import HandS.Lambda
import HandS.Walk
import HandS.Defaults
import HandS.RaiseMore
import HandS.Star
import HandS.SetFor
import HandS.ExcInit
import HandS.ExcSuper
import KE.KSuper
import HandS.ExcOwn
import HandS.ExcValue
import HandS.ExcField
import HandS.TryOnly
import HandS.WordsExc
import HandS.ExcCtx
import KE.GoesEnum
import HandS.ExcIs
import HandS.Strs
import HandS.StrMore
import HandS.TupMul
import HandS.Zip
import KE.KDictZip
import KE.KItemsList
import HandS.ReplaceLit
import HandS.ListItems
import HandS.EndTab
import HandS.AnyAll
import HandS.HotCalls
import KE.KEqDict
set_option Elab.async false
set_option maxRecDepth 100000
set_option maxHeartbeats 1000000
theorem pickE (_ : Unit) {p : Prop} (h : p) : p := h
set_option hygiene false in
local macro_rules | `(tactic| o_headL ($f $K $A $pf)) => `(tactic| o_headL (($f $K $A (pickE ?u $pf) : PySem.W.Hook)))
open PySem PySem.W PyProof.Rows in
set_option maxHeartbeats 0 in
def earlyHead : PSigma fun T : Prop => T → PySem.Challenge.rw_lyinghouse_k89_errors_keep_any_value.Holds := by
  refine' ⟨_, fun h => ?b⟩
  case b =>
    refine pickE ?u ?m
    rotate_left
    w_on; o_law; k_headL
    (case hw => w_witness2)
    (case u => exact ())
    exact h

set_option Elab.async false
set_option linter.all false
set_option maxRecDepth 100000
set_option maxHeartbeats 2000000
set_option autoImplicit false
/-! L3: values with tuples and lists as data, a store of what changes; readings over these, put upon the hand layer's. -/
namespace L3
open PySem L2

/-- a value as data: lst: a list that does not change any more; rol: one that may only be read; ref: a thing of the store, or any other object -/
inductive AV where
  | non | bl (b : Bool) | int (i : Int) | str (x : Str) | tup (xs : List AV) | lst (xs : List AV) | rol (xs : List AV) | ref (a : Addr) | ty (n : String)
  deriving Inhabited
/-- a lambda: its name, parameters, body, names, captured cells -/
structure LamD where
  q : Str
  ps : Arguments
  body : Expr
  sc : Scope
  cl : List (Str × Addr)
/-- an object that is known to the letter and stays -/
def fz (o : Obj) : HO := .frz o (.ext fun _ => True)
def LamD.obj (L : LamD) (pm : Value) (c : Addr) (ctv : Value) : Obj := PySem.W.kla_obj "<lambda>" L.q L.ps L.body L.sc L.cl pm c ctv
/-- what changes -/
inductive AO where
  | lst (xs : List AV) | dK (kvs : List (Key × AV)) | ins (C : Addr) (fs : List (Str × AV)) | hid
  /-- a table of code objects of one name; an object that is known as it is; a dict keyed by tuples; an exception that keeps v -/
  | tab (q : Str) | raw (o : HO) | dN (w : World) (kvs : List (AV × AV)) | exc (C : Addr) (v : AV)
  /-- a function object that a lambda made -/
  | lam (L : LamD)
abbrev Store := Addr → Option AO
abbrev ASt := List (Option AV)
def updS (S : Store) (a : Addr) (o : AO) : Store := fun b => if b = a then some o else S b
def dropS (S : Store) (a : Addr) : Store := fun b => if b = a then none else S b
theorem updS_same {S : Store} {a : Addr} {o : AO} : updS S a o a = some o := by unfold updS; rw [if_pos rfl]
theorem updS_ne {S : Store} {a b : Addr} {o : AO} (h : b ≠ a) : updS S a o b = S b := by unfold updS; rw [if_neg h]
theorem updS_updS {S : Store} {a : Addr} {o u : AO} : updS (updS S a o) a u = updS S a u := by
  funext b; unfold updS; split <;> rfl
theorem updS_comm {S : Store} {a b : Addr} {o u : AO} (h : a ≠ b) : updS (updS S a o) b u = updS (updS S b u) a o := by
  funext c; unfold updS; split <;> split <;> simp_all
theorem updS_self {S : Store} {a : Addr} {o : AO} (h : S a = some o) : updS S a o = S := by
  funext b; unfold updS; split
  · next e => rw [e, h]
  · rfl
theorem dropS_same {S : Store} {a : Addr} : dropS S a a = none := by unfold dropS; rw [if_pos rfl]
theorem dropS_ne {S : Store} {a b : Addr} (h : b ≠ a) : dropS S a b = S b := by unfold dropS; rw [if_neg h]
theorem dropS_upd {S : Store} {a : Addr} {o : AO} (h : S a = none) : dropS (updS S a o) a = S := by
  funext b; unfold dropS updS; split
  · next e => rw [e, h]
  · rfl
theorem dropS_updS {S : Store} {a : Addr} {o : AO} : dropS (updS S a o) a = dropS S a := by
  funext b; unfold dropS updS; split <;> rfl
theorem dropS_comm {S : Store} {a b : Addr} {o : AO} (h : a ≠ b) : dropS (updS S b o) a = updS (dropS S a) b o := by
  funext c; unfold dropS updS; split <;> split <;> simp_all
theorem dropS_none {S : Store} {a : Addr} (h : S a = none) : dropS S a = S := by
  funext b; unfold dropS; split
  · next e => rw [e, h]
  · rfl
theorem neS {S : Store} {a b : Addr} {o : AO} (h : S a = some o) (h' : S b = none) : a ≠ b := by
  rintro rfl; rw [h] at h'; cases h'

/-- a tuple, a list of the written part -/
def KTup (K : PySem.W.Frag) (a : Addr) (xs : List V) : Prop := ∃ (o : Obj) (its : Array Value) (n : Nat), K.lookup a = some o ∧ o.cls = .type "tuple" ∧ o.data = .seq its n ∧ its.size ≤ sizeLine ∧ Vals xs its.toList
def KLst (K : PySem.W.Frag) (a : Addr) (xs : List V) : Prop := ∃ (o : Obj) (its : Array Value) (n : Nat), K.lookup a = some o ∧ o.cls = .type "list" ∧ o.dict = none ∧ o.data = .seq its n ∧ its.size ≤ sizeLine ∧ Vals xs its.toList
mutual
inductive RelA (K : PySem.W.Frag) (H : Hp) (S : Store) : V → AV → Prop
  | non : RelA K H S .non .non
  | bl (b : Bool) : RelA K H S (.bl b) (.bl b)
  | int (i : Int) : RelA K H S (.int i) (.int i)
  | str (x : Str) : RelA K H S (.str x) (.str x)
  | ty (n : String) : RelA K H S (.ty n) (.ty n)
  | ref (a : Addr) : RelA K H S (.ref a) (.ref a)
  | tup {a : Addr} {vs : List V} {ds : List AV} : Rd H a (.tup vs) → S a = none → RelAs K H S vs ds → RelA K H S (.ref a) (.tup ds)
  | tupK {a : Addr} {vs : List V} {ds : List AV} : KTup K a vs → RelAs K H S vs ds → RelA K H S (.ref a) (.tup ds)
  | lst {a : Addr} {vs : List V} {ds : List AV} : H a = some (.lst vs) → S a = none → RelAs K H S vs ds → RelA K H S (.ref a) (.lst ds)
  | rol {a : Addr} {vs : List V} {ds : List AV} : Rd H a (.lst vs) → S a = none → RelAs K H S vs ds → RelA K H S (.ref a) (.rol ds)
  | rolK {a : Addr} {vs : List V} {ds : List AV} : KLst K a vs → RelAs K H S vs ds → RelA K H S (.ref a) (.rol ds)
inductive RelAs (K : PySem.W.Frag) (H : Hp) (S : Store) : List V → List AV → Prop
  | nil : RelAs K H S [] []
  | cons {v : V} {vs : List V} {d : AV} {ds : List AV} : RelA K H S v d → RelAs K H S vs ds → RelAs K H S (v :: vs) (d :: ds)
end

/-! ### keys that are tuples -/
mutual
/-- a value as a key -/
def keyN : AV → NestedKey
  | .int i => .num i
  | .str x => .text x
  | .tup xs => .tup (keyNs xs)
  | _ => .none
def keyNs : List AV → List NestedKey
  | [] => []
  | x :: xs => keyN x :: keyNs xs
end
mutual
/-- made of None, whole numbers, strings and tuples of such, at most so deep -/
def keyB : AV → Nat → Bool
  | .non, _ => true
  | .int _, _ => true
  | .str _, _ => true
  | .tup xs, k => decide (k ≠ 0) && keyBs xs (k - 1)
  | _, _ => false
def keyBs : List AV → Nat → Bool
  | [], _ => true
  | x :: xs, k => keyB x k && keyBs xs k
end
def isTupA : AV → Bool
  | .tup _ => true
  | _ => false
def keyOk (d : AV) : Bool := isTupA d && keyB d 8
/-- the object at a is a dict with these keys and values -/
def DnIs (w : World) (a : Addr) (es : List (NestedKey × V × V)) : Heap → Prop := fun h => ∃ (o : Obj) (xs : Array DictEntry) (ep : Nat), h.get? a = some o ∧ o.ExactDict ∧ o.data = .dict xs ep ∧
  Paired (fun (e : NestedKey × V × V) (x : DictEntry) => x.hash = e.1.hash w ∧ RelV e.2.1 x.key ∧ RelV e.2.2 x.val) es xs.toList
/-- the object at a is an exception of the class C with its own dict d -/
def ExV (C d a : Addr) : Heap → Prop := fun h => ∃ (oe : Obj) (vs : Array Value), h.get? a = some oe ∧ Zc (.ref C) (some d) oe ∧ oe.data = .fields vs
/-- what a stored thing is in the heap -/
def AoOk (K : PySem.W.Frag) (H : Hp) (S : Store) (a : Addr) : AO → Prop
  | .lst ds => ∃ vs, H a = some (.lst vs) ∧ RelAs K H S vs ds
  | .dK kvs => ∃ ws : List (Key × V), H a = some (.dK ws) ∧ ws.map (·.1) = kvs.map (·.1) ∧ RelAs K H S (ws.map (·.2)) (kvs.map (·.2))
  | .ins C fs => ∃ dx fv, H a = some (.ins C dx fv) ∧ fv.map (·.1) = fs.map (·.1) ∧ RelAs K H S (fv.map (·.2)) (fs.map (·.2))
  | .hid => ∃ o, H a = some o
  | .tab q => ∃ ps : Array Value, H a = some (.tbl ps) ∧ TriplesOk ps.toList ∧ ∀ (pos : Pos) (cv : Value), codeAmong pos ps.toList = some cv → ∃ c, cv = .ref c ∧ H c = some (LamX.CodeO c q) ∧ S c = none
  | .raw o => H a = some o
  | .dN w kvs => ∃ es : List (NestedKey × V × V), H a = some (.ext (DnIs w a es)) ∧ es.map (·.1) = kvs.map (fun e => keyN e.1) ∧ RelAs K H S (es.map (·.2.1)) (kvs.map (·.1)) ∧ RelAs K H S (es.map (·.2.2)) (kvs.map (·.2)) ∧
      (kvs.all fun e => keyOk e.1) = true ∧ (kvs.map fun e => keyN e.1).Nodup ∧ kvs.length ≤ sizeLine ∧ (a == sysModules) = false
  | .lam L => ∃ (c : Addr) (pm ctv : Value), H a = some (fz (L.obj pm c ctv)) ∧ H c = some (LamX.CodeO c L.q) ∧ S c = none
  | .exc C v => ∃ (d : Addr) (y : V), H a = some (.ext (ExV C d a)) ∧ H d = some (.xd [(("value" : Str), y)]) ∧ S d = none ∧ RelA K H S y v
def StOk (K : PySem.W.Frag) (H : Hp) (S : Store) : Prop := ∀ a o, S a = some o → AoOk K H S a o
/-- what may come between: only stored things change, and no hidden one -/
structure Step (H : Hp) (S : Store) (H' : Hp) (S' : Store) : Prop where
  old : ∀ a o, S a = none → H a = some o → H' a = some o ∧ S' a = none
  hid : ∀ a, S a = some .hid → H' a = H a ∧ S' a = some .hid
theorem Step.refl {H : Hp} {S : Store} : Step H S H S := ⟨fun _ _ n h => ⟨h, n⟩, fun _ h => ⟨rfl, h⟩⟩
theorem Step.trans {H H1 H2 : Hp} {S S1 S2 : Store} (a : Step H S H1 S1) (b : Step H1 S1 H2 S2) : Step H S H2 S2 :=
  ⟨fun x o n h => let ⟨h1, n1⟩ := a.old x o n h; b.old x o n1 h1, fun x h => let ⟨e1, h1⟩ := a.hid x h; let ⟨e2, h2⟩ := b.hid x h1; ⟨e2.trans e1, h2⟩⟩
theorem Rd.some {H : Hp} {a : Addr} {u : HO} (r : Rd H a u) : ∃ o, H a = some o := by
  rcases r with h | ⟨o, h⟩
  · exact ⟨_, h⟩
  · exact ⟨_, h⟩
/-- the heap's part of it -/
abbrev Old (H : Hp) (S : Store) (H' : Hp) (S' : Store) : Prop := ∀ a o, S a = none → H a = some o → H' a = some o ∧ S' a = none
theorem Rd.stp {H H' : Hp} {S S' : Store} {a : Addr} {u : HO} (st : Old H S H' S') (n : S a = none) (r : Rd H a u) : Rd H' a u := by
  rcases r with h | ⟨o, h⟩
  · exact .inl (st a _ n h).1
  · exact .inr ⟨o, (st a _ n h).1⟩
mutual
theorem RelA.stepO {K : PySem.W.Frag} {H H' : Hp} {S S' : Store} (st : Old H S H' S') : ∀ {v : V} {d : AV}, RelA K H S v d → RelA K H' S' v d
  | _, _, .non => .non
  | _, _, .bl b => .bl b
  | _, _, .int i => .int i
  | _, _, .str x => .str x
  | _, _, .ty n => .ty n
  | _, _, .ref a => .ref a
  | _, _, .tup (a := a) h n r => .tup (Rd.stp st n h) (let ⟨o, e⟩ := Rd.some h; (st a o n e).2) (RelAs.stepO st r)
  | _, _, .tupK h r => .tupK h (RelAs.stepO st r)
  | _, _, .lst (a := a) h n r => .lst (st a _ n h).1 (st a _ n h).2 (RelAs.stepO st r)
  | _, _, .rol (a := a) h n r => .rol (Rd.stp st n h) (let ⟨o, e⟩ := Rd.some h; (st a o n e).2) (RelAs.stepO st r)
  | _, _, .rolK h r => .rolK h (RelAs.stepO st r)
theorem RelAs.stepO {K : PySem.W.Frag} {H H' : Hp} {S S' : Store} (st : Old H S H' S') : ∀ {vs : List V} {ds : List AV}, RelAs K H S vs ds → RelAs K H' S' vs ds
  | _, _, .nil => .nil
  | _, _, .cons r t => .cons (RelA.stepO st r) (RelAs.stepO st t)
end
theorem RelA.step {K : PySem.W.Frag} {H H' : Hp} {S S' : Store} (st : Step H S H' S') {v : V} {d : AV} (r : RelA K H S v d) : RelA K H' S' v d := r.stepO st.old
theorem RelAs.step {K : PySem.W.Frag} {H H' : Hp} {S S' : Store} (st : Step H S H' S') {vs : List V} {ds : List AV} (r : RelAs K H S vs ds) : RelAs K H' S' vs ds := r.stepO st.old
/-- a smaller store -/
structure Sub (S' S : Store) : Prop where
  le : ∀ a o, S' a = some o → S a = some o
  hid : ∀ a, S a = some .hid → S' a = some .hid
theorem Sub.refl {S : Store} : Sub S S := ⟨fun _ _ h => h, fun _ h => h⟩
theorem Sub.non {S' S : Store} (s : Sub S' S) {a : Addr} (h : S a = none) : S' a = none := by
  cases e : S' a with
  | none => rfl
  | some o => rw [s.le a o e] at h; cases h
theorem Sub.trans {S S1 S2 : Store} (a : Sub S S1) (b : Sub S1 S2) : Sub S S2 := ⟨fun x o h => b.le x o (a.le x o h), fun x h => a.hid x (b.hid x h)⟩
/-- a thing that came anew is forgotten -/
theorem Sub.new {S S' : Store} {l : Addr} {o : AO} (s : Sub S S') (h : S l = none) (ho : S' l ≠ some .hid) (hh : o ≠ .hid) : Sub S (updS S' l o) := by
  refine ⟨fun a u e => ?_, fun a e => ?_⟩
  · have ne : a ≠ l := by rintro rfl; rw [h] at e; cases e
    rw [updS_ne ne]; exact s.le a u e
  · by_cases q : a = l
    · subst q; rw [updS_same] at e; exact absurd (Option.some.inj e) hh
    · rw [updS_ne q] at e; exact s.hid a e
theorem RelA.sub {K : PySem.W.Frag} {H : Hp} {S S' : Store} (s : Sub S' S) {v : V} {d : AV} (r : RelA K H S v d) : RelA K H S' v d := r.stepO fun _ _ n h => ⟨h, s.non n⟩
theorem RelAs.sub {K : PySem.W.Frag} {H : Hp} {S S' : Store} (s : Sub S' S) {vs : List V} {ds : List AV} (r : RelAs K H S vs ds) : RelAs K H S' vs ds := r.stepO fun _ _ n h => ⟨h, s.non n⟩
section
variable {K : PySem.W.Frag} {H H' : Hp} {S S' S2 : Store} {a l p : Addr} {v : V} {d : AV} {vs ws : List V} {ds es : List AV}
theorem AoOk.stepO {o : AO} (st : Old H S H' S') (x : AoOk K H S a o) (e : H' a = H a) : AoOk K H' S' a o := by
  cases o with
  | lst ds => obtain ⟨vs, h, r⟩ := x; exact ⟨vs, e.trans h, r.stepO st⟩
  | dK kvs => obtain ⟨ws, h, q, r⟩ := x; exact ⟨ws, e.trans h, q, r.stepO st⟩
  | ins C fs => obtain ⟨dx, fv, h, q, r⟩ := x; exact ⟨dx, fv, e.trans h, q, r.stepO st⟩
  | hid => obtain ⟨o, h⟩ := x; exact ⟨o, e.trans h⟩
  | tab q =>
    obtain ⟨ps, h, t, k⟩ := x
    refine ⟨ps, e.trans h, t, fun pos cv hc => ?_⟩
    obtain ⟨c, e1, e2, e3⟩ := k pos cv hc
    exact ⟨c, e1, st c _ e3 e2⟩
  | raw o => exact e.trans x
  | dN w kvs => obtain ⟨es, h, q, r, r2, y⟩ := x; exact ⟨es, e.trans h, q, r.stepO st, r2.stepO st, y⟩
  | lam L => obtain ⟨c, pm, ctv, h, h2, n⟩ := x; exact ⟨c, pm, ctv, e.trans h, st c _ n h2⟩
  | exc C v => obtain ⟨d, y, h, h2, n, r⟩ := x; exact ⟨d, y, e.trans h, (st d _ n h2).1, (st d _ n h2).2, r.stepO st⟩
theorem AoOk.step {o : AO} (st : Step H S H' S') (x : AoOk K H S a o) (e : H' a = H a) : AoOk K H' S' a o := x.stepO st.old e
theorem AoOk.sub {o : AO} (s : Sub S' S) (x : AoOk K H S a o) : AoOk K H S' a o := x.stepO (fun _ _ n h => ⟨h, s.non n⟩) rfl
theorem StOk.sub (s : Sub S' S) (x : StOk K H S) : StOk K H S' := fun a o e => (x a o (s.le a o e)).sub s
theorem Step.subR (st : Step H S H' S') (s : Sub S2 S') : Step H S H' S2 := ⟨fun a o n h => let ⟨h1, n1⟩ := st.old a o n h; ⟨h1, s.non n1⟩, fun a h => let ⟨e, h1⟩ := st.hid a h; ⟨e, s.hid a h1⟩⟩
theorem StOk.some (x : StOk K H S) {o : AO} (h : S a = some o) : ∃ u, H a = some u := by
  have z := x a o h
  cases o with
  | lst ds => obtain ⟨vs, h, _⟩ := z; exact ⟨_, h⟩
  | dK kvs => obtain ⟨ws, h, _⟩ := z; exact ⟨_, h⟩
  | ins C fs => obtain ⟨dx, fv, h, _⟩ := z; exact ⟨_, h⟩
  | hid => exact z
  | tab q => obtain ⟨ps, h, _⟩ := z; exact ⟨_, h⟩
  | raw o => exact ⟨_, z⟩
  | dN w kvs => obtain ⟨es, h, _⟩ := z; exact ⟨_, h⟩
  | exc C v => obtain ⟨d, y, h, _⟩ := z; exact ⟨_, h⟩
  | lam L => obtain ⟨c, pm, ctv, h, _⟩ := z; exact ⟨_, h⟩
/-- fresh in the heap is fresh in the store -/
theorem StOk.fresh (x : StOk K H S) (h : H a = none) : S a = none := by
  cases e : S a with
  | none => rfl
  | some o => obtain ⟨u, q⟩ := x.some e; rw [h] at q; cases q
/-- a new heap object beside the store -/
theorem step_new {o : HO} (x : StOk K H S) (h : H p = none) : Step H S (upd H p o) S :=
  ⟨fun a u n e => ⟨by rw [upd_ne (ne_of_none e h)]; exact e, n⟩, fun a e => ⟨by
    obtain ⟨u, q⟩ := x.some e
    rw [upd_ne (ne_of_none q h)], e⟩⟩
theorem stok_new {o : HO} (x : StOk K H S) (h : H p = none) : StOk K (upd H p o) S := fun a u e => (x a u e).step (step_new x h) (by
  obtain ⟨w, q⟩ := x.some e
  rw [upd_ne (ne_of_none q h)])
theorem rel_tup (x : StOk K H S) (h : H p = none) (r : RelAs K H S vs ds) : RelA K (upd H p (.tup vs)) S (.ref p) (.tup ds) := .tup (.inl upd_same) (x.fresh h) (r.step (step_new x h))
theorem rel_lst (x : StOk K H S) (h : H p = none) (r : RelAs K H S vs ds) : RelA K (upd H p (.lst vs)) S (.ref p) (.lst ds) := .lst upd_same (x.fresh h) (r.step (step_new x h))
/-- a new stored list -/
theorem step_put {o : HO} {u : AO} (x : StOk K H S) (h : H p = none) : Step H S (upd H p o) (updS S p u) :=
  ⟨fun a w n e => ⟨by rw [upd_ne (ne_of_none e h)]; exact e, by rw [updS_ne (ne_of_none e h)]; exact n⟩, fun a e => by
    obtain ⟨w, q⟩ := x.some e
    exact ⟨by rw [upd_ne (ne_of_none q h)], by rw [updS_ne (ne_of_none q h)]; exact e⟩⟩
theorem stok_put (x : StOk K H S) (h : H p = none) {o : HO} {u : AO} (n : AoOk K (upd H p o) (updS S p u) p u) : StOk K (upd H p o) (updS S p u) := fun a w e => by
  by_cases q : a = p
  · subst q; rw [updS_same] at e; cases e; exact n
  · rw [updS_ne q] at e
    exact (x a w e).step (step_put x h) (by rw [upd_ne q])
/-- a stored thing changes -/
theorem step_mut {o : HO} {u z : AO} (hs : S p = some z) (hz : z ≠ .hid) : Step H S (upd H p o) (updS S p u) :=
  ⟨fun a w n e => by
    have ne : a ≠ p := by rintro rfl; rw [hs] at n; cases n
    exact ⟨by rw [upd_ne ne]; exact e, by rw [updS_ne ne]; exact n⟩, fun a e => by
    have ne : a ≠ p := by rintro rfl; rw [hs] at e; exact hz (Option.some.inj e)
    exact ⟨by rw [upd_ne ne], by rw [updS_ne ne]; exact e⟩⟩
theorem stok_mut {o : HO} {u z : AO} (x : StOk K H S) (hs : S p = some z) (hz : z ≠ .hid) (n : AoOk K (upd H p o) (updS S p u) p u) : StOk K (upd H p o) (updS S p u) := fun a w e => by
  by_cases q : a = p
  · subst q; rw [updS_same] at e; cases e; exact n
  · rw [updS_ne q] at e
    exact (x a w e).step (step_mut hs hz) (by rw [upd_ne q])
theorem RelAs.length : ∀ {vs : List V} {ds : List AV}, RelAs K H S vs ds → vs.length = ds.length
  | _, _, .nil => rfl
  | _, _, .cons _ t => congrArg (· + 1) (RelAs.length t)
theorem RelAs.get : ∀ {vs : List V} {ds : List AV} {i : Nat} {d : AV}, RelAs K H S vs ds → ds[i]? = some d → ∃ v, vs[i]? = some v ∧ RelA K H S v d
  | _, _, _, _, .nil, e => by simp at e
  | _, _, 0, _, .cons r _, e => by simp at e; subst e; exact ⟨_, rfl, r⟩
  | _, _, i + 1, d, .cons _ t, e => by
    obtain ⟨u, h1, h2⟩ := RelAs.get (i := i) (d := d) t (by simpa using e)
    exact ⟨u, by simpa using h1, h2⟩
theorem RelAs.app : ∀ {vs ws : List V} {ds es : List AV}, RelAs K H S vs ds → RelAs K H S ws es → RelAs K H S (vs ++ ws) (ds ++ es)
  | _, _, _, _, .nil, s => s
  | _, _, _, _, .cons r t, s => .cons r (RelAs.app t s)
theorem RelAs.take : ∀ {vs : List V} {ds : List AV} (n : Nat), RelAs K H S vs ds → RelAs K H S (vs.take n) (ds.take n)
  | _, _, 0, _ => .nil
  | _, _, _ + 1, .nil => .nil
  | _, _, n + 1, .cons r t => .cons r (RelAs.take n t)
theorem RelAs.drop : ∀ {vs : List V} {ds : List AV} (n : Nat), RelAs K H S vs ds → RelAs K H S (vs.drop n) (ds.drop n)
  | _, _, 0, r => r
  | _, _, _ + 1, .nil => .nil
  | _, _, n + 1, .cons _ t => RelAs.drop n t
theorem RelAs.set (r : RelA K H S v d) : ∀ {vs : List V} {ds : List AV} (i : Nat), RelAs K H S vs ds → RelAs K H S (vs.set i v) (ds.set i d)
  | _, _, _, .nil => .nil
  | _, _, 0, .cons _ t => .cons r t
  | _, _, i + 1, .cons q t => .cons q (RelAs.set r i t)
theorem RelAs.reverse : ∀ {vs : List V} {ds : List AV}, RelAs K H S vs ds → RelAs K H S vs.reverse ds.reverse
  | _, _, .nil => .nil
  | _, _, .cons r t => by
    rw [List.reverse_cons, List.reverse_cons]
    exact RelAs.app (RelAs.reverse t) (.cons r .nil)
end

/-! ### slots -/
/-- what is known of a state since some moment -/
structure Birth where
  p : Hp → Store → Prop
  step : ∀ {H H' : Hp} {S S' : Store}, p H S → Step H S H' S' → p H' S'
  sub : ∀ {H : Hp} {S S' : Store}, p H S → Sub S' S → p H S'
/-- the written part, and that -/
structure KB where
  K : PySem.W.Frag
  b : Birth
abbrev kx (X : Cx) (b : Birth) : KB := ⟨X.K, b⟩
/-- nothing -/
def b0 : Birth := ⟨fun _ _ => True, fun _ _ => trivial, fun _ _ => trivial⟩
/-- all since H, S -/
def bornAt (H0 : Hp) (S0 : Store) : Birth := ⟨fun H S => Step H0 S0 H S, fun h st => h.trans st, fun h s => h.subR s⟩
structure Rp (k : KB) (H : Hp) (S : Store) (σ : L2.St) (τ : ASt) : Prop where
  len : τ.length = σ.length
  at_ : ∀ (i : Nat) (d : AV), τ[i]? = some (some d) → ∃ v, σ[i]? = some (some v) ∧ RelA k.K H S v d
  bt : k.b.p H S
section
variable {k : KB} {K : PySem.W.Frag} {H H' : Hp} {S S' : Store} {σ : L2.St} {τ : ASt}
theorem Rp.step (r : Rp k H S σ τ) (st : Step H S H' S') : Rp k H' S' σ τ := ⟨r.len, fun i d e => let ⟨v, h, q⟩ := r.at_ i d e; ⟨v, h, q.step st⟩, k.b.step r.bt st⟩
theorem Rp.sub (r : Rp k H S σ τ) (s : Sub S' S) : Rp k H S' σ τ := ⟨r.len, fun i d e => let ⟨v, h, q⟩ := r.at_ i d e; ⟨v, h, q.sub s⟩, k.b.sub r.bt s⟩
theorem Rp.set (r : Rp k H S σ τ) {v : V} {d : AV} (q : RelA k.K H S v d) (i : Nat) : Rp k H S (σ.set i (some v)) (τ.set i (some d)) := by
  refine ⟨by rw [List.length_set, List.length_set, r.len], fun j e h => ?_, r.bt⟩
  by_cases z : j = i
  · subst z
    have hl : j < τ.length := by
      have := (List.getElem?_eq_some_iff.mp h).1
      rwa [List.length_set] at this
    rw [List.getElem?_set_self hl] at h
    cases h
    exact ⟨v, by rw [List.getElem?_set_self (by rw [← r.len]; exact hl)], q⟩
  · rw [List.getElem?_set_ne (Ne.symm z)] at h
    obtain ⟨w, hw, rw'⟩ := r.at_ j e h
    exact ⟨w, by rw [List.getElem?_set_ne (Ne.symm z)]; exact hw, rw'⟩
theorem RelAs.startR (hb : k.b.p H S) : ∀ {vs : List V} {ds : List AV} (n : Nat), RelAs k.K H S vs ds → Rp k H S (vs.map some ++ List.replicate n none) (ds.map some ++ List.replicate n none)
  | _, _, n, .nil => ⟨by simp, fun i d e => by
      have e' : (List.replicate n (none : Option AV))[i]? = some (some d) := by simpa using e
      rw [List.getElem?_replicate] at e'
      split at e' <;> simp at e', hb⟩
  | _, _, n, .cons (v := v) (vs := vs) (d := d) (ds := ds) r t => by
    have ih := RelAs.startR hb n t
    refine ⟨by simpa using ih.len, fun i e h => ?_, hb⟩
    cases i with
    | zero => simp at h; subst h; exact ⟨v, by simp, r⟩
    | succ i => exact ih.at_ i e (by simpa using h)
end
def startA (N : List Str) (ds : List AV) : ASt := ds.map some ++ List.replicate (N.length - ds.length) none
theorem rp_start {k : KB} {H : Hp} {S : Store} {vs : List V} {ds : List AV} {N : List Str} (hb : k.b.p H S) (r : RelAs k.K H S vs ds) : Rp k H S (L2.start N vs) (startA N ds) := by
  unfold L2.start startA
  rw [r.length]
  exact r.startR hb _

/-! ### readings -/
abbrev AK := AV → Store → Prop
abbrev AE := ASt → Store → AK → Prop
abbrev AT := ASt → Store → (Bool → Store → Prop) → Prop
abbrev AA := ASt → Store → (List AV → Store → Prop) → Prop
structure AEnds where
  nx : ASt → Store → Prop
  rt : AK
  bk : ASt → Store → Prop := fun _ _ => False
  ct : ASt → Store → Prop := fun _ _ => False
abbrev AS := AEnds → ASt → Store → Prop
/-- an operation's condition and value -/
structure Ans where
  ok : Prop
  v : AV
section
variable (k : KB) (K : PySem.W.Frag)
def low (ae : AE) : TE := fun σ H QH => ∃ τ S Q, Rp k H S σ τ ∧ StOk k.K H S ∧ ae τ S Q ∧ ∀ v H' d S', StOk k.K H' S' → Step H S H' S' → RelA k.K H' S' v d → Q d S' → QH v H'
def lowT (at_ : AT) : TT := fun σ H QH => ∃ τ S Q, Rp k H S σ τ ∧ StOk k.K H S ∧ at_ τ S Q ∧ ∀ b H' S', StOk k.K H' S' → Step H S H' S' → Q b S' → QH b H'
def lowA (aa : AA) : TA := fun σ H QH => ∃ τ S Q, Rp k H S σ τ ∧ StOk k.K H S ∧ aa τ S Q ∧ ∀ vs H' ds S', StOk k.K H' S' → Step H S H' S' → RelAs k.K H' S' vs ds → Q ds S' → QH vs H'
structure EndsOk (H : Hp) (S : Store) (D : AEnds) (DH : Ends) : Prop where
  nx : ∀ σ' H' τ' S', StOk k.K H' S' → Step H S H' S' → Rp k H' S' σ' τ' → D.nx τ' S' → DH.nx σ' H'
  rt : ∀ v H' d S', StOk k.K H' S' → Step H S H' S' → RelA k.K H' S' v d → D.rt d S' → DH.rt v H'
  bk : ∀ σ' H' τ' S', StOk k.K H' S' → Step H S H' S' → Rp k H' S' σ' τ' → D.bk τ' S' → DH.bk σ' H'
  ct : ∀ σ' H' τ' S', StOk k.K H' S' → Step H S H' S' → Rp k H' S' σ' τ' → D.ct τ' S' → DH.ct σ' H'
def lowS (as : AS) : TS := fun DH σ H => ∃ τ S D, Rp k H S σ τ ∧ StOk k.K H S ∧ as D τ S ∧ EndsOk k H S D DH
def lowO (ar : AV → AV → Store → Ans) : R2 := fun x y H QH => ∃ dx dy S, RelA K H S x dx ∧ RelA K H S y dy ∧ StOk K H S ∧ (ar dx dy S).ok ∧ ∀ v H', StOk K H' S → Step H S H' S → RelA K H' S v (ar dx dy S).v → QH v H'
def lowU (ar : AV → Store → Ans) : V → Hp → VK → Prop := fun x H QH => ∃ dx S, RelA K H S x dx ∧ StOk K H S ∧ (ar dx S).ok ∧ ∀ v H', StOk K H' S → Step H S H' S → RelA K H' S v (ar dx S).v → QH v H'
def lowC (ar : List AV → Store → Ans) : List V → Hp → VK → Prop := fun vs H QH => ∃ ds S, RelAs K H S vs ds ∧ StOk K H S ∧ (ar ds S).ok ∧ ∀ v H', StOk K H' S → Step H S H' S → RelA K H' S v (ar ds S).v → QH v H'
/-- .. with an effect on the store -/
def lowM (am : AV → List AV → Store → AK → Prop) : V → List V → Hp → VK → Prop := fun x vs H QH => ∃ dx ds S Q, RelA K H S x dx ∧ RelAs K H S vs ds ∧ StOk K H S ∧ am dx ds S Q ∧ ∀ v H' d S', StOk K H' S' → Step H S H' S' → RelA K H' S' v d → Q d S' → QH v H'
def lowG (ag : AV → ASt → Store → (ASt → Store → Prop) → Prop) : TG := fun v σ H QH => ∃ d τ S Q, RelA k.K H S v d ∧ Rp k H S σ τ ∧ StOk k.K H S ∧ ag d τ S Q ∧ ∀ σ' H' τ' S', StOk k.K H' S' → Step H S H' S' → Rp k H' S' σ' τ' → Q τ' S' → QH σ' H'
def lowGs (ag : List AV → ASt → Store → (ASt → Store → Prop) → Prop) : TGs := fun vs σ H QH => ∃ ds τ S Q, RelAs k.K H S vs ds ∧ Rp k H S σ τ ∧ StOk k.K H S ∧ ag ds τ S Q ∧ ∀ σ' H' τ' S', StOk k.K H' S' → Step H S H' S' → Rp k H' S' σ' τ' → Q τ' S' → QH σ' H'
/-- an iterator goes through xs as long as G holds of the store -/
def ItOk (J : It) (H : Hp) (S : Store) (G : Store → Prop) (xs : List AV) : Prop := ∀ H' S', StOk K H' S' → Step H S H' S' → G S' →
  (∀ (i : Nat) x, xs[i]? = some x → J.go i H' ∧ ∀ v H'', J.yld i H' v H'' → StOk K H'' S' ∧ Step H' S' H'' S' ∧ RelA K H'' S' v x) ∧ J.stop xs.length H'
abbrev AI := ASt → Store → (List AV → (Store → Prop) → Store → Prop) → Prop
def lowI (ai : AI) : TI := fun σ H R => ∃ τ S Q, Rp k H S σ τ ∧ StOk k.K H S ∧ ai τ S Q ∧ ∀ J H' xs G S', StOk k.K H' S' → Step H S H' S' → ItOk k.K J H' S' G xs → Q xs G S' → R J H'
end
abbrev AG := AV → ASt → Store → (ASt → Store → Prop) → Prop
abbrev AGs := List AV → ASt → Store → (ASt → Store → Prop) → Prop

section
variable {X : Cx} {e : Expr} {t t' : TE}
theorem _root_.L2.PE.weak (h : PE X e t) (w : ∀ σ H Q, t' σ H Q → t σ H Q) : PE X e t' := ⟨fun pins s σ H Q I q => h.run pins s σ H Q I (w σ H Q q)⟩
theorem _root_.L2.PT.weak {t t' : TT} (h : PT X e t) (w : ∀ σ H Q, t' σ H Q → t σ H Q) : PT X e t' := ⟨fun pins s σ H Q I q => h.run pins s σ H Q I (w σ H Q q)⟩
theorem _root_.L2.PW.weak {t t' : TT} (h : PW X e t) (w : ∀ σ H Q, t' σ H Q → t σ H Q) : PW X e t' := ⟨fun wh pins s σ H Q I q => h.run wh pins s σ H Q I (w σ H Q q)⟩
theorem _root_.L2.PA.weak {es : List Expr} {t t' : TA} (h : PA X es t) (w : ∀ σ H Q, t' σ H Q → t σ H Q) : PA X es t' := ⟨fun pos pins s σ H Q I q => h.run pos pins s σ H Q I (w σ H Q q)⟩
theorem _root_.L2.PS.weak {st : Stmt} {t t' : TS} (h : PS X st t) (w : ∀ D σ H, t' D σ H → t D σ H) : PS X st t' := ⟨fun pins s σ H D I q => h.run pins s σ H D I (w D σ H q)⟩
theorem _root_.L2.PSs.weak {st : List Stmt} {t t' : TS} (h : PSs X st t) (w : ∀ D σ H, t' D σ H → t D σ H) : PSs X st t' := ⟨fun pins s σ H D I q => h.run pins s σ H D I (w D σ H q)⟩
theorem _root_.L2.PG.weak {tg : Expr} {t t' : TG} (h : PG X tg t) (w : ∀ v σ H Q, t' v σ H Q → t v σ H Q) : PG X tg t' := ⟨fun pins s σ H v u Q I r q => h.run pins s σ H v u Q I r (w v σ H Q q)⟩
theorem _root_.L2.PGs.weak {tg : List Expr} {t t' : TGs} (h : PGs X tg t) (w : ∀ v σ H Q, t' v σ H Q → t v σ H Q) : PGs X tg t' := ⟨fun pins s σ H v u Q I r q => h.run pins s σ H v u Q I r (w v σ H Q q)⟩
theorem _root_.L2.PI.weak {tg iter : Expr} {t t' : TI} (h : PI X tg iter t) (w : ∀ σ H Q, t' σ H Q → t σ H Q) : PI X tg iter t' := ⟨fun pins s σ H Q I q => h.run pins s σ H Q I (w σ H Q q)⟩
theorem _root_.L2.PTs.weak {ifs : List Expr} {t t' : TT} (h : PTs X ifs t) (w : ∀ σ H Q, t' σ H Q → t σ H Q) : PTs X ifs t' := ⟨fun pins s σ H Q I q => h.run pins s σ H Q I (w σ H Q q)⟩
theorem opr_weak {f : Value → Value → Sem Value} {r r' : R2} (h : OpR X f r) (w : ∀ x y H Q, r' x y H Q → r x y H Q) : OpR X f r' := fun pins s σ H x y v u Q I rx ry q => h pins s σ H x y v u Q I rx ry (w x y H Q q)
theorem unr_weak {f : Value → Sem Value} {r r' : V → Hp → VK → Prop} (h : UnR X f r) (w : ∀ x H Q, r' x H Q → r x H Q) : UnR X f r' := fun pins s σ H x v Q I rx q => h pins s σ H x v Q I rx (w x H Q q)
theorem callr_weak {f : Value} {r r' : List V → Hp → VK → Prop} (h : CallR X f r) (w : ∀ x H Q, r' x H Q → r x H Q) : CallR X f r' := fun pins s σ H x v Q I rx q => h pins s σ H x v Q I rx (w x H Q q)
theorem ixr_weak {r r' : R2} (h : IxR X r) (w : ∀ x y H Q, r' x y H Q → r x y H Q) : IxR X r' := fun va sl pins s σ H x y v u Q I rx ry q => h va sl pins s σ H x y v u Q I rx ry (w x y H Q q)
theorem mtr_weak {id : String} {r r' : V → List V → Hp → VK → Prop} (h : MtR X id r) (w : ∀ x y H Q, r' x y H Q → r x y H Q) : MtR X id r' := by
  intro pins s σ H
  intros
  apply h pins s σ H <;> first | assumption | (apply w; assumption)
end
end L3

set_option Elab.async false
set_option linter.all false
set_option maxRecDepth 100000
set_option maxHeartbeats 2000000
set_option autoImplicit false
/-! L3, rules: names, constants, operators, tests, calls, statements. -/
namespace L3
open PySem L2
variable {bb : Birth}

/-- the items of a list that stands -/
def lstA (S : Store) : AV → Option (List AV)
  | .lst xs => some xs
  | .rol xs => some xs
  | .ref l => match S l with
    | some (.lst xs) => some xs
    | _ => none
  | _ => none
theorem lstA_lst {S : Store} {xs : List AV} : lstA S (.lst xs) = some xs := rfl
theorem lstA_rol {S : Store} {xs : List AV} : lstA S (.rol xs) = some xs := rfl
theorem lstA_ref {S : Store} {l : Addr} {xs : List AV} (h : S l = some (.lst xs)) : lstA S (.ref l) = some xs := by
  show (match S l with | some (.lst xs) => some xs | _ => none) = some xs
  rw [h]
section
variable {K : PySem.W.Frag} {H : Hp} {S : Store} {v : V} {d : AV} {ds : List AV}
theorem rel_tupE (r : RelA K H S v (.tup ds)) : ∃ a vs, v = .ref a ∧ SqT K H a vs ∧ RelAs K H S vs ds := by
  cases r with
  | tup h n q => exact ⟨_, _, rfl, .inl h, q⟩
  | tupK h q => exact ⟨_, _, rfl, .inr h, q⟩
theorem rel_lstE (so : StOk K H S) (r : RelA K H S v d) (e : lstA S d = some ds) : ∃ a vs, v = .ref a ∧ SqL K H a vs ∧ RelAs K H S vs ds := by
  cases r with
  | lst h n q => cases e; exact ⟨_, _, rfl, .inl (.inl h), q⟩
  | rol h n q => cases e; exact ⟨_, _, rfl, .inl h, q⟩
  | rolK h q => cases e; exact ⟨_, _, rfl, .inr h, q⟩
  | ref a =>
    have e' : (match S a with | some (.lst xs) => some xs | _ => none) = some ds := e
    cases z : S a with
    | none => rw [z] at e'; cases e'
    | some o =>
      rw [z] at e'
      cases o with
      | lst xs =>
        cases e'
        obtain ⟨vs, h, q⟩ := so a _ z
        exact ⟨_, _, rfl, .inl (.inl h), q⟩
      | dK _ => cases e'
      | _ => cases e'
  | non => cases e
  | bl _ => cases e
  | int _ => cases e
  | str _ => cases e
  | ty _ => cases e
  | tup _ _ _ => cases e
  | tupK _ _ => cases e
end

section
variable {X : Cx} {e a b c : Expr} {es : List Expr} {ta tb tc : AE} {pos p : Pos}

/-! ### names, constants -/
def aVar (i : Nat) : AE := fun τ S Q => ∃ d, τ[i]? = some (some d) ∧ Q d S
theorem e_var (i : Nat) {x : Str} (hN : X.N[i]? = some x := by rfl) (hv : Vis X.env.scope x := by first | exact Or.inl rfl | exact Or.inr (Or.inl rfl) | exact Or.inr (Or.inr rfl)) (hd : (x == ("__debug__" : Str)) = false := by decide)
    (hcd : (x == ("__classdict__" : Str)) = false := by decide) : PE X (.Name x pos) (low (kx X bb) (aVar i)) := (pe_var hN hv hd hcd).weak fun σ H QH ⟨τ, S, Q, R, so, ⟨d, hd, q⟩, k⟩ => by
  obtain ⟨v, hv, r⟩ := R.at_ i d hd
  exact ⟨v, hv, k v H d S so .refl r q⟩
def aC (d : AV) : AE := fun _ S Q => Q d S
def RelC (v : V) (d : AV) : Prop := ∀ K H S, RelA K H S v d
theorem low_c {v : V} {d : AV} (h : PE X e (tC v)) (r : RelC v d) : PE X e (low (kx X bb) (aC d)) := h.weak fun σ H QH ⟨τ, S, Q, R, so, q, k⟩ => k v H d S so .refl (r _ _ _) q
theorem e_int {i : Int} {j} : PE X (.Constant (.int i) j pos) (low (kx X bb) (aC (.int i))) := low_c pe_int fun _ _ _ => .int _
theorem e_bl {i : Bool} {j} : PE X (.Constant (.bool i) j pos) (low (kx X bb) (aC (.bl i))) := low_c pe_bl fun _ _ _ => .bl _
theorem e_str {i : Str} {j} : PE X (.Constant (.str i) j pos) (low (kx X bb) (aC (.str i))) := low_c pe_str fun _ _ _ => .str _
theorem e_non {j} : PE X (.Constant .none j pos) (low (kx X bb) (aC .non)) := low_c pe_non fun _ _ _ => .non
theorem e_glob {x : Str} {v : V} {d : AV} {u : Value} (hm : X.mg x = some u) (r : RelV v u) (rc : RelC v d) (hg : Gl X x := by rfl) (hd : (x == ("__debug__" : Str)) = false := by decide) : PE X (.Name x pos) (low (kx X bb) (aC d)) := low_c (pe_glob hg hm r hd) rc
theorem e_gint {x : Str} {i : Int} {t : Tok} (hm : X.mg x = some (.int i t)) (hg : Gl X x := by rfl) (hd : (x == ("__debug__" : Str)) = false := by decide) : PE X (.Name x pos) (low (kx X bb) (aC (.int i))) := e_glob (v := .int i) hm ⟨_, rfl⟩ (fun _ _ _ => .int _) hg hd
theorem e_gstr {x : Str} {i : Str} {t : Tok} (hm : X.mg x = some (.str i t)) (hg : Gl X x := by rfl) (hd : (x == ("__debug__" : Str)) = false := by decide) : PE X (.Name x pos) (low (kx X bb) (aC (.str i))) := e_glob (v := .str i) hm ⟨_, rfl⟩ (fun _ _ _ => .str _) hg hd
theorem e_gref {x : Str} {i : Addr} (hm : X.mg x = some (.ref i)) (hg : Gl X x := by rfl) (hd : (x == ("__debug__" : Str)) = false := by decide) : PE X (.Name x pos) (low (kx X bb) (aC (.ref i))) := e_glob (v := .ref i) hm rfl (fun _ _ _ => .ref _) hg hd
theorem e_bty {x : Str} {n : String} (hm : X.mg x = none) (hb : bootBuiltins x = some (.type n)) (hg : Gl X x := by rfl) (hn : x ≠ ("__name__" : Str) := by decide) (hd : (x == ("__debug__" : Str)) = false := by decide) : PE X (.Name x pos) (low (kx X bb) (aC (.ty n))) := low_c (pe_bltn (v := .ty n) hg hm hb rfl hn hd) fun _ _ _ => .ty _

/-! ### arguments, displays -/
def aNil : AA := fun _ S Q => Q [] S
def aCons (ta : AE) (tr : AA) : AA := fun τ S Q => ta τ S fun x S1 => tr τ S1 fun xs S2 => Q (x :: xs) S2
theorem a_nil : PA X [] (lowA (kx X bb) aNil) := pa_nil.weak fun σ H QH ⟨τ, S, Q, R, so, q, k⟩ => k [] H [] S so .refl .nil q
theorem a_cons {tr : AA} (ha : PE X e (low (kx X bb) ta)) (hr : PA X es (lowA (kx X bb) tr)) (hs : starEach (e :: es) X.env = (false, eval e X.env) :: starEach es X.env := by rfl) : PA X (e :: es) (lowA (kx X bb) (aCons ta tr)) :=
  (pa_cons ha hr hs).weak fun σ H QH ⟨τ, S, Q, R, so, q, k⟩ => ⟨τ, S, _, R, so, q, fun v H1 d S1 so1 st1 r1 q1 => ⟨τ, S1, _, R.step st1, so1, q1, fun vs H2 ds S2 so2 st2 r2 q2 =>
    k (v :: vs) H2 (d :: ds) S2 so2 (st1.trans st2) (.cons (r1.step st2) r2) q2⟩⟩
def aTup (t : AA) : AE := fun τ S Q => t τ S fun ds S1 => ds.length ≤ sizeLine ∧ Q (.tup ds) S1
def aLst (t : AA) : AE := fun τ S Q => t τ S fun ds S1 => ds.length ≤ sizeLine ∧ ∀ l, S1 l = none → Q (.ref l) (updS S1 l (.lst ds))
def aLstV (t : AA) : AE := fun τ S Q => t τ S fun ds S1 => ds.length ≤ sizeLine ∧ Q (.lst ds) S1
theorem e_tup {t : AA} {x1} (h : PA X es (lowA (kx X bb) t)) : PE X (.Tuple es x1 pos) (low (kx X bb) (aTup t)) := (pe_tup h).weak fun σ H QH ⟨τ, S, Q, R, so, q, k⟩ =>
  ⟨τ, S, _, R, so, q, fun vs H1 ds S1 so1 st1 r1 ⟨z, q1⟩ => ⟨by rw [r1.length]; exact z, fun p hp => k _ _ _ S1 (stok_new so1 hp) (st1.trans (step_new so1 hp)) (rel_tup so1 hp r1) q1⟩⟩
theorem e_lstV {t : AA} (h : PA X es (lowA (kx X bb) t)) : PE X (.List es pos) (low (kx X bb) (aLstV t)) := (pe_lst h).weak fun σ H QH ⟨τ, S, Q, R, so, q, k⟩ =>
  ⟨τ, S, _, R, so, q, fun vs H1 ds S1 so1 st1 r1 ⟨z, q1⟩ => ⟨by rw [r1.length]; exact z, fun p hp => k _ _ _ S1 (stok_new so1 hp) (st1.trans (step_new so1 hp)) (rel_lst so1 hp r1) q1⟩⟩
theorem e_lst {t : AA} (h : PA X es (lowA (kx X bb) t)) : PE X (.List es pos) (low (kx X bb) (aLst t)) := (pe_lst h).weak fun σ H QH ⟨τ, S, Q, R, so, q, k⟩ =>
  ⟨τ, S, _, R, so, q, fun vs H1 ds S1 so1 st1 r1 ⟨z, q1⟩ => ⟨by rw [r1.length]; exact z, fun p hp =>
    have n : S1 p = none := so1.fresh hp
    have st2 := step_put (o := .lst vs) (u := .lst ds) so1 hp
    k _ _ _ _ (stok_put (u := .lst ds) so1 hp ⟨vs, upd_same, r1.step st2⟩) (st1.trans st2) (.ref p) (q1 p n)⟩⟩

/-! ### operators -/
def aOp (ar : AV → AV → Store → Ans) (ta tb : AE) : AE := fun τ S Q => ta τ S fun x S1 => tb τ S1 fun y S2 => (ar x y S2).ok ∧ Q (ar x y S2).v S2
def aUn (ar : AV → Store → Ans) (ta : AE) : AE := fun τ S Q => ta τ S fun x S1 => (ar x S1).ok ∧ Q (ar x S1).v S1
theorem low_op {ar : AV → AV → Store → Ans} : ∀ σ H QH, low (kx X bb) (aOp ar ta tb) σ H QH → tOp (lowO X.K ar) (low (kx X bb) ta) (low (kx X bb) tb) σ H QH := fun σ H QH ⟨τ, S, Q, R, so, q, k⟩ =>
  ⟨τ, S, _, R, so, q, fun v H1 d S1 so1 st1 r1 q1 => ⟨τ, S1, _, R.step st1, so1, q1, fun w H2 e S2 so2 st2 r2 ⟨ok, q2⟩ =>
    ⟨d, e, S2, r1.step st2, r2, so2, ok, fun z H3 so3 st3 r3 => k z H3 _ S2 so3 ((st1.trans st2).trans st3) r3 q2⟩⟩⟩
theorem e_op {op : Operator} {ar : AV → AV → Store → Ans} (ho : OpR X (binaryOp op) (lowO X.K ar)) (ha : PE X a (low (kx X bb) ta)) (hb : PE X b (low (kx X bb) tb)) : PE X (.BinOp a op b pos) (low (kx X bb) (aOp ar ta tb)) := (pe_op ho ha hb).weak low_op
theorem e_un {op : UnaryOp} {ar : AV → Store → Ans} (ho : UnR X (unaryOp op) (lowU X.K ar)) (ha : PE X a (low (kx X bb) ta)) : PE X (.UnaryOp op a pos) (low (kx X bb) (aUn ar ta)) := (pe_un ho ha).weak fun σ H QH ⟨τ, S, Q, R, so, q, k⟩ =>
  ⟨τ, S, _, R, so, q, fun v H1 d S1 so1 st1 r1 ⟨ok, q1⟩ => ⟨d, S1, r1, so1, ok, fun z H3 so3 st3 r3 => k z H3 _ S1 so3 (st1.trans st3) r3 q1⟩⟩
theorem e_cmp {op : CmpOp} {ar : AV → AV → Store → Ans} (ho : OpR X (compareOp op) (lowO X.K ar)) (ha : PE X a (low (kx X bb) ta)) (hb : PE X b (low (kx X bb) tb)) (hm : behindInMarks op b = false := by first | exact nobehind _ (by decide) (by decide) | rfl) : PE X (.Compare a [op] [b] pos) (low (kx X bb) (aOp ar ta tb)) := (pe_cmpR ho ha hb hm).weak low_op
/-- a subscript -/
theorem e_ix {ar : AV → AV → Store → Ans} (ho : IxR X (lowO X.K ar)) (ha : PE X a (low (kx X bb) ta)) (hb : PE X b (low (kx X bb) tb)) (hp : PlainIx b := by exact fun _ _ => rfl) : PE X (.Subscript a b pos) (low (kx X bb) (aOp ar ta tb)) := (pe_ix ho ha hb hp).weak low_op

/-! ### tests -/
def truA (S : Store) : AV → Bool
  | .bl b => b
  | .int i => i != 0
  | .str y => (y.length : Int) != 0
  | .tup xs => !xs.isEmpty
  | .lst xs => !xs.isEmpty
  | .rol xs => !xs.isEmpty
  | .ref l => match S l with
    | some (.lst xs) => !xs.isEmpty
    | some (.dK xs) => !xs.isEmpty
    | _ => false
  | _ => false
def truOk (S : Store) : AV → Prop
  | .str y => y.length ≤ sizeLine
  | .ref l => match S l with
    | some (.lst _) => True
    | some (.dK _) => True
    | _ => False
  | .ty _ => False
  | _ => True
theorem isEmpty_len {α β : Type} {xs : List α} {ys : List β} (h : xs.length = ys.length) : xs.isEmpty = ys.isEmpty := by
  cases xs <;> cases ys <;> simp at h ⊢
theorem truV_of {K : PySem.W.Frag} {H : Hp} {S : Store} {v : V} {d : AV} (so : StOk K H S) (r : RelA K H S v d) (ok : truOk S d) : TruV K v H (truA S d) := by
  cases r with
  | non => rfl
  | bl b => rfl
  | int i => rfl
  | str x => exact ⟨ok, rfl⟩
  | ty n => exact ok.elim
  | tup h n q => exact .inr (.inl ⟨_, .inl h, congrArg (!·) (isEmpty_len q.length.symm)⟩)
  | tupK h q => exact .inr (.inl ⟨_, .inr h, congrArg (!·) (isEmpty_len q.length.symm)⟩)
  | lst h n q => exact .inl ⟨_, .inl (.inl h), congrArg (!·) (isEmpty_len q.length.symm)⟩
  | rol h n q => exact .inl ⟨_, .inl h, congrArg (!·) (isEmpty_len q.length.symm)⟩
  | rolK h q => exact .inl ⟨_, .inr h, congrArg (!·) (isEmpty_len q.length.symm)⟩
  | ref a =>
    cases z : S a with
    | none => simp only [truOk, z] at ok
    | some o =>
      cases o with
      | lst xs =>
        obtain ⟨vs, h, q⟩ := so a _ z
        refine .inl ⟨_, .inl (.inl h), ?_⟩
        simp only [truA, z]
        exact congrArg (!·) (isEmpty_len q.length.symm)
      | dK xs =>
        obtain ⟨ws, h, e, q⟩ := so a _ z
        refine .inr (.inr ⟨_, h, ?_⟩)
        simp only [truA, z]
        refine congrArg (!·) (isEmpty_len ?_)
        have := congrArg List.length e
        rw [List.length_map, List.length_map] at this
        exact this.symm
      | _ => simp only [truOk, z] at ok
/-- a value's truth -/
def aTru (ta : AE) : AT := fun τ S Q => ta τ S fun x S1 => truOk S1 x ∧ Q (truA S1 x) S1
theorem t_tru (ha : PE X a (low (kx X bb) ta)) (he : ∀ whole, isTrue a X.env whole = (do let v ← whole; standAt a.pos; holding [v] (truthy v)) := by intro _; rfl) : PT X a (lowT (kx X bb) (aTru ta)) :=
  (pt_truth ha he).weak fun σ H QH ⟨τ, S, Q, R, so, q, k⟩ => ⟨τ, S, _, R, so, q, fun v H1 d S1 so1 st1 r1 ⟨ok, q1⟩ => ⟨_, truV_of so1 r1 ok, k _ H1 S1 so1 st1 q1⟩⟩
/-- a comparison as a test: what it gives is a truth -/
def aTst (t : AE) : AT := fun τ S Q => t τ S fun x S1 => ∃ b, x = .bl b ∧ Q b S1
theorem rel_blE {K : PySem.W.Frag} {H : Hp} {S : Store} {v : V} {b : Bool} (r : RelA K H S v (.bl b)) : v = .bl b := by cases r; rfl
theorem rel_intE {K : PySem.W.Frag} {H : Hp} {S : Store} {v : V} {b : Int} (r : RelA K H S v (.int b)) : v = .int b := by cases r; rfl
theorem rel_strE {K : PySem.W.Frag} {H : Hp} {S : Store} {v : V} {b : Str} (r : RelA K H S v (.str b)) : v = .str b := by cases r; rfl
theorem rel_nonE {K : PySem.W.Frag} {H : Hp} {S : Store} {v : V} (r : RelA K H S v .non) : v = .non := by cases r; rfl
theorem rel_tyE {K : PySem.W.Frag} {H : Hp} {S : Store} {v : V} {n : String} (r : RelA K H S v (.ty n)) : v = .ty n := by cases r; rfl
theorem rel_refE {K : PySem.W.Frag} {H : Hp} {S : Store} {v : V} {a : Addr} (r : RelA K H S v (.ref a)) : v = .ref a := by cases r; rfl
def aCmp (ar : AV → AV → Store → Ans) (ta tb : AE) : AT := fun τ S Q => ta τ S fun x S1 => tb τ S1 fun y S2 => (ar x y S2).ok ∧ ∃ k, (ar x y S2).v = .bl k ∧ Q k S2
theorem t_cmp {op : CmpOp} {ar : AV → AV → Store → Ans} (ho : OpR X (compareOp op) (lowO X.K ar)) (ha : PE X a (low (kx X bb) ta)) (hb : PE X b (low (kx X bb) tb)) (hm : behindInMarks op b = false := by first | exact nobehind _ (by decide) (by decide) | rfl) : PT X (.Compare a [op] [b] pos) (lowT (kx X bb) (aCmp ar ta tb)) :=
  (pt_cmpR ho ha hb hm).weak fun σ H QH ⟨τ, S, Q, R, so, q, k⟩ =>
  ⟨τ, S, _, R, so, q, fun v H1 d S1 so1 st1 r1 q1 => ⟨τ, S1, _, R.step st1, so1, q1, fun w H2 e S2 so2 st2 r2 ⟨ok, b, eb, q2⟩ =>
    ⟨d, e, S2, r1.step st2, r2, so2, ok, fun z H3 so3 st3 r3 => ⟨b, rel_blE (eb ▸ r3), k b H3 S2 so3 ((st1.trans st2).trans st3) q2⟩⟩⟩⟩
/-- a < b < c -/
def aChn (ar ar' : AV → AV → Store → Ans) (ta tb tc : AE) : AE := fun τ S Q => ta τ S fun x S1 => tb τ S1 fun y S2 => (ar x y S2).ok ∧ ∃ k, (ar x y S2).v = .bl k ∧
  (if k = true then tc τ S2 fun w S3 => (ar' y w S3).ok ∧ Q (ar' y w S3).v S3 else Q (.bl false) S2)
theorem low_chn {r r' : AV → AV → Store → Ans} : ∀ σ H QH, low (kx X bb) (aChn r r' ta tb tc) σ H QH → tChain (lowO X.K r) (lowO X.K r') (low (kx X bb) ta) (low (kx X bb) tb) (low (kx X bb) tc) σ H QH := fun σ H QH ⟨τ, S, Q, R, so, q, k⟩ =>
  ⟨τ, S, _, R, so, q, fun v H1 d S1 so1 st1 r1 q1 => ⟨τ, S1, _, R.step st1, so1, q1, fun w H2 e S2 so2 st2 r2 ⟨ok, b, eb, q2⟩ =>
    ⟨d, e, S2, r1.step st2, r2, so2, ok, fun z H3 so3 st3 r3 => ⟨b, rel_blE (eb ▸ r3), by
      cases b with
      | false =>
        rw [if_neg Bool.false_ne_true] at q2 ⊢
        exact k _ H3 _ S2 so3 ((st1.trans st2).trans st3) (.bl false) q2
      | true =>
        rw [if_pos rfl] at q2 ⊢
        exact ⟨τ, S2, _, ((R.step st1).step st2).step st3, so3, q2, fun w' H4 f S4 so4 st4 r4 ⟨ok4, q4⟩ => ⟨e, f, S4, (r2.step st3).step st4, r4, so4, ok4, fun z5 H5 so5 st5 r5 =>
          k z5 H5 _ S4 so5 ((((st1.trans st2).trans st3).trans st4).trans st5) r5 q4⟩⟩⟩⟩⟩⟩
theorem e_chn {op op' : CmpOp} {r r' : AV → AV → Store → Ans} (ho : OpR X (compareOp op) (lowO X.K r)) (ho' : OpR X (compareOp op') (lowO X.K r')) (ha : PE X a (low (kx X bb) ta)) (hb : PE X b (low (kx X bb) tb)) (hc : PE X c (low (kx X bb) tc))
    (hm : lastMarks [op, op'] [b, c] = false := by rfl) : PE X (.Compare a [op, op'] [b, c] pos) (low (kx X bb) (aChn r r' ta tb tc)) := (pe_chain ho ho' ha hb hc hm).weak low_chn
def aChnT (ar ar' : AV → AV → Store → Ans) (ta tb tc : AE) : AT := aTst (aChn ar ar' ta tb tc)
theorem t_chn {op op' : CmpOp} {r r' : AV → AV → Store → Ans} (ho : OpR X (compareOp op) (lowO X.K r)) (ho' : OpR X (compareOp op') (lowO X.K r')) (ha : PE X a (low (kx X bb) ta)) (hb : PE X b (low (kx X bb) tb)) (hc : PE X c (low (kx X bb) tc))
    (hm : lastMarks [op, op'] [b, c] = false := by rfl) : PT X (.Compare a [op, op'] [b, c] pos) (lowT (kx X bb) (aChnT r r' ta tb tc)) := (pt_chain ho ho' ha hb hc hm).weak fun σ H QH ⟨τ, S, Q, R, so, q, k⟩ =>
  low_chn σ H _ ⟨τ, S, fun x S1 => ∃ b, x = .bl b ∧ Q b S1, R, so, q, fun v H' d S' so' st' r' ⟨b, eb, q'⟩ => ⟨b, rel_blE (eb ▸ r'), k b H' S' so' st' q'⟩⟩
def aAnd (t u : AT) : AT := fun τ S Q => t τ S fun c S1 => if c = true then u τ S1 Q else Q false S1
def aOr (t u : AT) : AT := fun τ S Q => t τ S fun c S1 => if c = true then Q true S1 else u τ S1 Q
def aNot (t : AT) : AT := fun τ S Q => t τ S fun c S1 => Q (!c) S1
variable {t u : AT} {rest : List Expr}
theorem w_and1 (ha : PT X a (lowT (kx X bb) t)) : PW X (.BoolOp .And [a] pos) (lowT (kx X bb) t) := pw_and1 ha
theorem w_or1 (ha : PT X a (lowT (kx X bb) t)) : PW X (.BoolOp .Or [a] pos) (lowT (kx X bb) t) := pw_or1 ha
theorem w_and (ha : PT X a (lowT (kx X bb) t)) (hb : PW X (.BoolOp .And (b :: rest) pos) (lowT (kx X bb) u)) : PW X (.BoolOp .And (a :: b :: rest) pos) (lowT (kx X bb) (aAnd t u)) := (pw_and ha hb).weak fun σ H QH ⟨τ, S, Q, R, so, q, k⟩ =>
  ⟨τ, S, _, R, so, q, fun b H1 S1 so1 st1 q1 => by
    cases b with
    | false => rw [if_neg Bool.false_ne_true] at q1 ⊢; exact k _ H1 S1 so1 st1 q1
    | true => rw [if_pos rfl] at q1 ⊢; exact ⟨τ, S1, Q, R.step st1, so1, q1, fun b H2 S2 so2 st2 q2 => k b H2 S2 so2 (st1.trans st2) q2⟩⟩
theorem w_or (ha : PT X a (lowT (kx X bb) t)) (hb : PW X (.BoolOp .Or (b :: rest) pos) (lowT (kx X bb) u)) : PW X (.BoolOp .Or (a :: b :: rest) pos) (lowT (kx X bb) (aOr t u)) := (pw_or ha hb).weak fun σ H QH ⟨τ, S, Q, R, so, q, k⟩ =>
  ⟨τ, S, _, R, so, q, fun b H1 S1 so1 st1 q1 => by
    cases b with
    | true => rw [if_pos rfl] at q1 ⊢; exact k _ H1 S1 so1 st1 q1
    | false => rw [if_neg Bool.false_ne_true] at q1 ⊢; exact ⟨τ, S1, Q, R.step st1, so1, q1, fun b H2 S2 so2 st2 q2 => k b H2 S2 so2 (st1.trans st2) q2⟩⟩
theorem t_not (ha : PT X a (lowT (kx X bb) t)) : PT X (.UnaryOp .Not a pos) (lowT (kx X bb) (aNot t)) := (pt_not ha).weak fun σ H QH ⟨τ, S, Q, R, so, q, k⟩ =>
  ⟨τ, S, _, R, so, q, fun b H1 S1 so1 st1 q1 => k _ H1 S1 so1 st1 q1⟩
/-- a if t else b -/
def aIf (t : AT) (ta tb : AE) : AE := fun τ S Q => t τ S fun c S1 => if c = true then ta τ S1 Q else tb τ S1 Q
theorem e_if (hc : PT X c (lowT (kx X bb) t)) (ha : PE X a (low (kx X bb) ta)) (hb : PE X b (low (kx X bb) tb)) : PE X (.IfExp c a b pos) (low (kx X bb) (aIf t ta tb)) := (pe_ifExp hc ha hb).weak fun σ H QH ⟨τ, S, Q, R, so, q, k⟩ =>
  ⟨τ, S, _, R, so, q, fun b H1 S1 so1 st1 q1 => by
    cases b with
    | true => rw [if_pos rfl] at q1 ⊢; exact ⟨τ, S1, Q, R.step st1, so1, q1, fun v H2 d S2 so2 st2 r2 q2 => k v H2 d S2 so2 (st1.trans st2) r2 q2⟩
    | false => rw [if_neg Bool.false_ne_true] at q1 ⊢; exact ⟨τ, S1, Q, R.step st1, so1, q1, fun v H2 d S2 so2 st2 r2 q2 => k v H2 d S2 so2 (st1.trans st2) r2 q2⟩⟩
/-- and, or, not as values -/
def aAndV (ta tb : AE) : AE := fun τ S Q => ta τ S fun x S1 => truOk S1 x ∧ if truA S1 x = true then tb τ S1 Q else Q x S1
def aOrV (ta tb : AE) : AE := fun τ S Q => ta τ S fun x S1 => truOk S1 x ∧ if truA S1 x = true then Q x S1 else tb τ S1 Q
def aNotV (ta : AE) : AE := fun τ S Q => ta τ S fun x S1 => truOk S1 x ∧ Q (.bl (!truA S1 x)) S1
theorem e_one {op} (h : PE X a (low (kx X bb) ta)) : PE X (.BoolOp op [a] pos) (low (kx X bb) ta) := pe_one h
theorem e_and (ha : PE X a (low (kx X bb) ta)) (hb : PE X (.BoolOp .And (b :: rest) pos) (low (kx X bb) tb)) : PE X (.BoolOp .And (a :: b :: rest) pos) (low (kx X bb) (aAndV ta tb)) := (pe_andT ha hb).weak fun σ H QH ⟨τ, S, Q, R, so, q, k⟩ =>
  ⟨τ, S, _, R, so, q, fun v H1 d S1 so1 st1 r1 ⟨ok, q1⟩ => ⟨_, truV_of so1 r1 ok, by
    split at q1
    · next z => rw [if_pos z]; exact ⟨τ, S1, Q, R.step st1, so1, q1, fun v H2 d S2 so2 st2 r2 q2 => k v H2 d S2 so2 (st1.trans st2) r2 q2⟩
    · next z => rw [if_neg z]; exact k v H1 d S1 so1 st1 r1 q1⟩⟩
theorem e_or (ha : PE X a (low (kx X bb) ta)) (hb : PE X (.BoolOp .Or (b :: rest) pos) (low (kx X bb) tb)) : PE X (.BoolOp .Or (a :: b :: rest) pos) (low (kx X bb) (aOrV ta tb)) := (pe_orT ha hb).weak fun σ H QH ⟨τ, S, Q, R, so, q, k⟩ =>
  ⟨τ, S, _, R, so, q, fun v H1 d S1 so1 st1 r1 ⟨ok, q1⟩ => ⟨_, truV_of so1 r1 ok, by
    split at q1
    · next z => rw [if_pos z]; exact k v H1 d S1 so1 st1 r1 q1
    · next z => rw [if_neg z]; exact ⟨τ, S1, Q, R.step st1, so1, q1, fun v H2 d S2 so2 st2 r2 q2 => k v H2 d S2 so2 (st1.trans st2) r2 q2⟩⟩⟩
theorem e_not (ha : PE X a (low (kx X bb) ta)) : PE X (.UnaryOp .Not a pos) (low (kx X bb) (aNotV ta)) := (pe_notT ha).weak fun σ H QH ⟨τ, S, Q, R, so, q, k⟩ =>
  ⟨τ, S, _, R, so, q, fun v H1 d S1 so1 st1 r1 ⟨ok, q1⟩ => ⟨_, truV_of so1 r1 ok, k _ H1 _ S1 so1 st1 (.bl _) q1⟩⟩

/-! ### builtins by name -/
def aCB (ar : List AV → Store → Ans) (t : AA) : AE := fun τ S Q => t τ S fun ds S1 => (ar ds S1).ok ∧ Q (ar ds S1).v S1
theorem low_cb {ar : List AV → Store → Ans} {t : AA} : ∀ σ H QH, low (kx X bb) (aCB ar t) σ H QH → tCB (lowC X.K ar) (lowA (kx X bb) t) σ H QH := fun σ H QH ⟨τ, S, Q, R, so, q, k⟩ =>
  ⟨τ, S, _, R, so, q, fun vs H1 ds S1 so1 st1 r1 ⟨ok, q1⟩ => ⟨ds, S1, r1, so1, ok, fun v H2 so2 st2 r2 => k v H2 _ S1 so2 (st1.trans st2) r2 q1⟩⟩
end
end L3

set_option Elab.async false
set_option linter.all false
set_option maxRecDepth 100000
set_option maxHeartbeats 2000000
set_option autoImplicit false
/-! L3, rules: calls of defs, statements, loops, comprehensions. -/
namespace L3
open PySem L2
variable {bb : Birth}

/-! ### promises of defs -/
abbrev ASp := List AV → Store → AK → Prop
def spOf (K : PySem.W.Frag) (asp : ASp) : Sp := fun vs H QH _ => ∃ ds S Q, RelAs K H S vs ds ∧ StOk K H S ∧ asp ds S Q ∧ ∀ d S' v H', StOk K H' S' → Step H S H' S' → RelA K H' S' v d → Q d S' → QH v H'
structure Fn3 (P : Program) (w : World) (K : PySem.W.Frag) (mg : Str → Option Value) (base : Heap) (k : Nat) (x : Str) (ps : List Str) (asp : ASp) : Prop where
  ex : ∃ (f : Addr) (fd : FuncData), FnOk P w K mg base CX0 k f fd ps (spOf K asp) ∧ mg x = some (.ref f) ∧ PySem.W.keepIn K (.ref f) = true ∧ Binds K fd ps []
/-- what a def hands back may be told of a smaller store, a list as one that does not change any more -/
def RtW (Q : AK) : AK := fun d S => ∃ d2 S2, Sub S2 S ∧ (d2 = d ∨ ∃ l ds, d = .ref l ∧ S l = some (.lst ds) ∧ S2 l = none ∧ d2 = .lst ds) ∧ Q d2 S2
theorem rt_same {Q : AK} {d : AV} {S : Store} (q : Q d S) : RtW Q d S := ⟨d, S, .refl, .inl rfl, q⟩
theorem rt_sub {Q : AK} {d : AV} {S S2 : Store} (s : Sub S2 S) (q : Q d S2) : RtW Q d S := ⟨d, S2, s, .inl rfl, q⟩
theorem rt_frz {Q : AK} {l : Addr} {ds : List AV} {S S2 : Store} (h : S l = some (.lst ds)) (s : Sub S2 S) (n : S2 l = none) (q : Q (.lst ds) S2) : RtW Q (.ref l) S := ⟨.lst ds, S2, s, .inr ⟨l, ds, rfl, h, n, rfl⟩, q⟩
section
variable {kb : KB} {H H' : Hp} {S S' : Store} {D : AEnds} {DH : Ends}
theorem EndsOk.step (x : EndsOk kb H S D DH) (st : Step H S H' S') : EndsOk kb H' S' D DH :=
  ⟨fun σ' H2 τ' S2 so s2 => x.nx σ' H2 τ' S2 so (st.trans s2), fun v H2 d S2 so s2 => x.rt v H2 d S2 so (st.trans s2), fun σ' H2 τ' S2 so s2 => x.bk σ' H2 τ' S2 so (st.trans s2), fun σ' H2 τ' S2 so s2 => x.ct σ' H2 τ' S2 so (st.trans s2)⟩
end
/-- THE RULE for a def -/
theorem _root_.L2.Fun.ok3 {P : Program} {w : World} {K : PySem.W.Frag} {mg : Str → Option Value} {base : Heap} {x qual : Str} {st : Stmt} {f : Addr} {fd : FuncData} {N ps : List Str} {k : Nat} {asp : ASp} (F : L2.Fun K x qual st f fd) (S : FnScope N ps (defScope st))
    (len : ∀ ds S Q, asp ds S Q → ds.length = ps.length)
    (hbody : ∀ (cdv : Value) (A : Around) (outer : List Env) (s : Shared) (H : Hp) (E : XK), Room k (A.deeper (PyProof.Rows.envOfC qual (defScope st) s.heap.objs.size f cdv)) →
      ∃ as, PSs (cxOf CX0 P w K mg base N qual (defScope st) f cdv A outer s H E).nox (defBody st) (lowS ⟨K, b0⟩ as) ∧ ∀ ds S Q, asp ds S Q → as { nx := fun _ S' => RtW Q .non S', rt := RtW Q } (startA N ds) S) : FnOk P w K mg base CX0 (k + 1) f fd ps (spOf K asp) :=
  F.ok S (fun vs H Q E h => by obtain ⟨ds, S, Q', r, so, q, _⟩ := h; rw [r.length]; exact len ds S Q' q) fun cdv A outer s H vs QH E hr h => by
    obtain ⟨ds, S, Q, r, so, q, k⟩ := h
    obtain ⟨as, hp, ha⟩ := hbody cdv A outer s H E hr
    have rt : ∀ v H' d S', StOk K H' S' → Step H S H' S' → RelA K H' S' v d → RtW Q d S' → QH v H' := fun v H' d S' so' st' r' ⟨d2, S2, sb, hd, q2⟩ => by
      rcases hd with rfl | ⟨l, ds, rfl, hl, hn, rfl⟩
      · exact k d2 S2 v H' (so'.sub sb) (st'.subR sb) (r'.sub sb) q2
      · obtain rfl := rel_refE r'
        obtain ⟨vs, hv, rv⟩ := so' l _ hl
        exact k _ S2 _ H' (so'.sub sb) (st'.subR sb) (.lst hv hn (rv.sub sb)) q2
    exact ⟨_, hp, startA N ds, S, _, rp_start (k := ⟨K, b0⟩) trivial r, so, ha ds S Q q, fun σ' H' τ' S' so' st' _ q' => rt .non H' .non S' so' st' .non q', rt, fun _ _ _ _ _ _ _ z => z.elim, fun _ _ _ _ _ _ _ z => z.elim⟩

section
variable {X : Cx} {e a b c : Expr} {es : List Expr} {ta tb tc : AE} {tt : AT} {pos p : Pos}
def aCall (asp : ASp) (t : AA) : AE := fun τ S Q => t τ S fun ds S1 => asp ds S1 Q
theorem e_call {k : Nat} {x : Str} {ps : List Str} {asp : ASp} {t : AA} (F : Fn3 X.prog X.w X.K X.mg X.base k x ps asp) (hr : Room k X.A) (ha : PA X (e :: es) (lowA (kx X bb) t)) (hg : Gl X x := by rfl)
    (hdb : (x == ("__debug__" : Str)) = false := by decide) (he : starEach (e :: es) X.env = (false, eval e X.env) :: starEach es X.env := by rfl) (hpl : (backTo pos (starEach es X.env)).any (·.1) = false := by rfl) :
    PE X (.Call (.Name x p) (e :: es) [] pos) (low (kx X bb) (aCall asp t)) := by
  obtain ⟨f, fd, G, hm, hk, hb⟩ := F.ex
  exact (pe_call G hr hg hm hk hb .nil pass0 ha hdb he hpl).weak fun σ H QH ⟨τ, S, Q, R, so, q, k⟩ => ⟨τ, S, _, R, so, q, fun vs H1 ds S1 so1 st1 r1 q1 => by
    show spOf X.K asp (vs ++ []) H1 QH E0
    rw [List.append_nil]
    exact ⟨ds, S1, Q, r1, so1, q1, fun d S' v H' so' st' r' q' => k v H' d S' so' (st1.trans st') r' q'⟩⟩
theorem e_call0 {k : Nat} {x : Str} {ps : List Str} {asp : ASp} (F : Fn3 X.prog X.w X.K X.mg X.base k x ps asp) (hr : Room k X.A) (hg : Gl X x := by rfl) (hdb : (x == ("__debug__" : Str)) = false := by decide) :
    PE X (.Call (.Name x p) [] [] pos) (low (kx X bb) (aCall asp aNil)) := by
  obtain ⟨f, fd, G, hm, hk, hb⟩ := F.ex
  exact (pe_call0 G hr hg hm hk hb .nil pass0 hdb).weak fun σ H QH ⟨τ, S, Q, R, so, q, k⟩ => ⟨[], S, Q, .nil, so, q, fun d S' v H' so' st' r' q' => k v H' d S' so' st' r' q'⟩

/-! ### statements -/
variable {st : Stmt} {rest sts : List Stmt} {t u : AS}
def aNext : AS := fun D τ S => D.nx τ S
def aSeq (t u : AS) : AS := fun D τ S => t { D with nx := u D } τ S
theorem s_nil : PSs X [] (lowS (kx X bb) aNext) := pss_nil.weak fun D σ H ⟨τ, S, DA, R, so, q, k⟩ => k.nx σ H τ S so .refl R q
theorem s_cons (h1 : PS X st (lowS (kx X bb) t)) (h2 : PSs X rest (lowS (kx X bb) u)) : PSs X (st :: rest) (lowS (kx X bb) (aSeq t u)) := (pss_cons h1 h2).weak fun D σ H ⟨τ, S, DA, R, so, q, k⟩ =>
  ⟨τ, S, { DA with nx := u DA }, R, so, q, ⟨fun σ' H' τ' S' so' st' R' q' => ⟨τ', S', DA, R', so', q', k.step st'⟩, k.rt, k.bk, k.ct⟩⟩
theorem s_one (h1 : PS X st (lowS (kx X bb) t)) : PSs X [st] (lowS (kx X bb) t) := pss_one h1
theorem s_pass : PS X (.Pass pos) (lowS (kx X bb) aNext) := ps_pass.weak fun D σ H ⟨τ, S, DA, R, so, q, k⟩ => k.nx σ H τ S so .refl R q
def aBrk : AS := fun D τ S => D.bk τ S
def aCnt : AS := fun D τ S => D.ct τ S
theorem s_brk : PS X (.Break pos) (lowS (kx X bb) aBrk) := ps_break.weak fun D σ H ⟨τ, S, DA, R, so, q, k⟩ => k.bk σ H τ S so .refl R q
theorem s_cnt : PS X (.Continue pos) (lowS (kx X bb) aCnt) := ps_continue.weak fun D σ H ⟨τ, S, DA, R, so, q, k⟩ => k.ct σ H τ S so .refl R q
def aDrop (ta : AE) : AS := fun D τ S => ta τ S fun _ S1 => D.nx τ S1
theorem s_expr (h : PE X e (low (kx X bb) ta)) (hs : swapsWith e none pos.line X.env = pure false := by rfl) : PS X (.Expr e pos) (lowS (kx X bb) (aDrop ta)) := (ps_expr h hs).weak fun D σ H ⟨τ, S, DA, R, so, q, k⟩ =>
  ⟨τ, S, _, R, so, q, fun v H1 d S1 so1 st1 r1 q1 => k.nx σ H1 τ S1 so1 st1 (R.step st1) q1⟩
def aRet (ta : AE) : AS := fun D τ S => ta τ S D.rt
theorem s_ret (h : PE X e (low (kx X bb) ta)) : PS X (.Return (some e) pos) (lowS (kx X bb) (aRet ta)) := (ps_ret h).weak fun D σ H ⟨τ, S, DA, R, so, q, k⟩ =>
  ⟨τ, S, _, R, so, q, fun v H1 d S1 so1 st1 r1 q1 => k.rt v H1 d S1 so1 st1 r1 q1⟩
def aRetN : AS := fun D _ S => D.rt .non S
theorem s_retN : PS X (.Return none pos) (lowS (kx X bb) aRetN) := ps_retN.weak fun D σ H ⟨τ, S, DA, R, so, q, k⟩ => k.rt .non H .non S so .refl .non q
def aIfS (tc : AT) (t u : AS) : AS := fun D τ S => tc τ S fun b S1 => if b = true then t D τ S1 else u D τ S1
theorem s_if {x y : List Stmt} (hc : PT X c (lowT (kx X bb) tt)) (ha : PSs X x (lowS (kx X bb) t)) (hb : PSs X y (lowS (kx X bb) u)) : PS X (.If c x y pos) (lowS (kx X bb) (aIfS tt t u)) := (ps_if hc ha hb).weak fun D σ H ⟨τ, S, DA, R, so, q, k⟩ =>
  ⟨τ, S, _, R, so, q, fun b H1 S1 so1 st1 q1 => by
    cases b with
    | true => rw [if_pos rfl] at q1 ⊢; exact ⟨τ, S1, DA, R.step st1, so1, q1, k.step st1⟩
    | false => rw [if_neg Bool.false_ne_true] at q1 ⊢; exact ⟨τ, S1, DA, R.step st1, so1, q1, k.step st1⟩⟩
def aNev : AS := fun _ _ _ => False
theorem s_nev : PS X st (lowS (kx X bb) aNev) := ps_never.weak fun D σ H ⟨τ, S, DA, R, so, q, k⟩ => q
theorem ss_nev : PSs X sts (lowS (kx X bb) aNev) := pss_never.weak fun D σ H ⟨τ, S, DA, R, so, q, k⟩ => q

/-! ### targets -/
def agName (i : Nat) : AG := fun d τ S Q => Q (τ.set i (some d)) S
theorem g_name {x : Str} (i : Nat) (hN : X.N.Nodup) (hi : X.N[i]? = some x := by rfl) (hx : L2.Loc X.env.scope x := by first | exact .inl rfl | exact .inr rfl) (hf : X.fn x = true ∨ X.env.scope.names.lookup x = some .local := by first | exact .inl rfl | exact .inr rfl | assumption) :
    PG X (.Name x pos) (lowG (kx X bb) (agName i)) := (pg_name hN hi hx hf).weak fun v σ H QH ⟨d, τ, S, Q, r, R, so, q, k⟩ => k _ H _ S so .refl (R.set r i) q
def agNil : AGs := fun ds τ S Q => ds = [] ∧ Q τ S
def agCons (g : AG) (gs : AGs) : AGs := fun ds τ S Q => ∃ d es, ds = d :: es ∧ g d τ S fun τ1 S1 => gs es τ1 S1 Q
def agTup (n : Nat) (g : AGs) : AG := fun d τ S Q => ∃ ds, d = .tup ds ∧ ds.length = n ∧ g ds τ S Q
theorem gs_nil : PGs X [] (lowGs (kx X bb) agNil) := pgs_nil.weak fun vs σ H QH ⟨ds, τ, S, Q, r, R, so, ⟨e, q⟩, k⟩ => by
  subst e
  cases r
  exact ⟨rfl, k σ H τ S so .refl R q⟩
theorem gs_cons {g : AG} {gs : AGs} (h : PG X e (lowG (kx X bb) g)) (hs : PGs X es (lowGs (kx X bb) gs))
    (ha : (assignEach (e :: es) X.env).map (·.2) = assign e X.env :: (assignEach es X.env).map (·.2) := by rfl) : PGs X (e :: es) (lowGs (kx X bb) (agCons g gs)) := (pgs_cons h hs ha).weak fun vs σ H QH ⟨ds, τ, S, Q, r, R, so, ⟨d, es, e, q⟩, k⟩ => by
  subst e
  cases r with
  | cons r rs =>
    exact ⟨_, _, rfl, d, τ, S, _, r, R, so, q, fun σ1 H1 τ1 S1 so1 st1 R1 q1 => ⟨es, τ1, S1, Q, rs.step st1, R1, so1, q1, fun σ2 H2 τ2 S2 so2 st2 R2 q2 => k σ2 H2 τ2 S2 so2 (st1.trans st2) R2 q2⟩⟩
theorem g_tup {g : AGs} {k n : Nat} (hc : X.calm = true) (h : PGs X es (lowGs (kx X bb) g)) (hn : (assignEach es X.env).length = n := by rfl) (hst : (assignEach es X.env).findIdx? (·.1) = none := by rfl) :
    PG X (.Tuple es k pos) (lowG (kx X bb) (agTup n g)) := (pg_tup hc h hn hst).weak fun v σ H QH ⟨d, τ, S, Q, r, R, so, ⟨ds, e, el, q⟩, k⟩ => by
  subst e
  obtain ⟨a, vs, rfl, h, rs⟩ := rel_tupE r
  exact ⟨a, vs, rfl, h, rs.length.trans el, ds, τ, S, Q, rs, R, so, q, k⟩
def aAsg (ta : AE) (g : AG) : AS := fun D τ S => ta τ S fun d S1 => g d τ S1 D.nx
theorem s_asg {tg : Expr} {g : AG} (h : PE X e (low (kx X bb) ta)) (hg : PG X tg (lowG (kx X bb) g)) (h1 : swapsWithSole [tg] e pos.line X.env = pure false := by rfl) (h2 : swappedStores [tg] e X.env = pure none := by rfl)
    (h3 : (assignEach [tg] X.env).map (·.2) = [assign tg X.env] := by rfl) : PS X (.Assign [tg] e pos) (lowS (kx X bb) (aAsg ta g)) := (ps_asg h hg h1 h2 h3).weak fun D σ H ⟨τ, S, DA, R, so, q, k⟩ =>
  ⟨τ, S, _, R, so, q, fun v H1 d S1 so1 st1 r1 q1 => ⟨d, τ, S1, DA.nx, r1, R.step st1, so1, q1, fun σ2 H2 τ2 S2 so2 st2 R2 q2 => k.nx σ2 H2 τ2 S2 so2 (st1.trans st2) R2 q2⟩⟩
/-- x = e -/
theorem s_set {x : Str} {px : Pos} (i : Nat) (hN : X.N.Nodup) (h : PE X e (low (kx X bb) ta)) (hi : X.N[i]? = some x := by rfl) (hx : L2.Loc X.env.scope x := by first | exact .inl rfl | exact .inr rfl) (hf : X.fn x = true ∨ X.env.scope.names.lookup x = some .local := by first | exact .inl rfl | exact .inr rfl | assumption)
    (h1 : swapsWithSole [.Name x px] e pos.line X.env = pure false := by rfl) (h2 : swappedStores [.Name x px] e X.env = pure none := by rfl)
    (h3 : (assignEach [.Name x px] X.env).map (·.2) = [assign (.Name x px) X.env] := by rfl) : PS X (.Assign [.Name x px] e pos) (lowS (kx X bb) (aAsg ta (agName i))) := s_asg h (g_name i hN hi hx hf) h1 h2 h3
/-- a, b = x, y -/
def aPar (i j : Nat) (t : AA) : AS := fun D τ S => t τ S fun ds S1 => ∃ x y, ds = [x, y] ∧ D.nx ((τ.set i (some x)).set j (some y)) S1
theorem s_par {i j : Nat} {x y : Str} {t : AA} {px py pt : Pos} {kt k2 : Nat} {pt2 : Pos} (hc : X.calm = true) (hN : X.N.Nodup) (ha : PA X [a, b] (lowA (kx X bb) t)) (hi : X.N[i]? = some x := by rfl) (hj : X.N[j]? = some y := by rfl) (hij : i ≠ j := by decide)
    (hx : X.env.scope.names.lookup x = some .local := by rfl) (hy : X.env.scope.names.lookup y = some .local := by rfl)
    (h1 : swappedStores [.Tuple [.Name x px, .Name y py] kt pt] (.Tuple [a, b] k2 pt2) X.env = pure (some [x, y]) := by rfl) (h2 : swapsWithSole [.Tuple [.Name x px, .Name y py] kt pt] (.Tuple [a, b] k2 pt2) pos.line X.env = pure false := by rfl) :
    PS X (.Assign [.Tuple [.Name x px, .Name y py] kt pt] (.Tuple [a, b] k2 pt2) pos) (lowS (kx X bb) (aPar i j t)) := (ps_par hc hN hi hj hij hx hy ha h1 h2).weak fun D σ H ⟨τ, S, DA, R, so, q, k⟩ =>
  ⟨τ, S, _, R, so, q, fun vs H1 ds S1 so1 st1 r1 ⟨x, y, e, q1⟩ => by
    subst e
    cases r1 with
    | cons rx rr =>
      cases rr with
      | cons ry rr =>
        cases rr
        exact ⟨_, _, rfl, k.nx _ H1 _ S1 so1 st1 (((R.step st1).set rx i).set ry j) q1⟩⟩
/-- x op= e -/
def aAug (ar : AV → AV → Store → Ans) (i : Nat) (ta : AE) : AS := fun D τ S => ∃ x, τ[i]? = some (some x) ∧ ta τ S fun y S1 => (ar x y S1).ok ∧ D.nx (τ.set i (some (ar x y S1).v)) S1
theorem s_aug {x : Str} {px : Pos} {op : Operator} {ar : AV → AV → Store → Ans} (i : Nat) (hN : X.N.Nodup) (h : PE X e (low (kx X bb) ta)) (ho : PIp X op (lowO X.K ar)) (hi : X.N[i]? = some x := by rfl) (hx : L2.Loc X.env.scope x := by first | exact .inl rfl | exact .inr rfl)
    (hf : X.fn x = true ∨ X.env.scope.names.lookup x = some .local := by first | exact .inl rfl | exact .inr rfl | assumption) : PS X (.AugAssign (.Name x px) op e pos) (lowS (kx X bb) (aAug ar i ta)) := (ps_aug hN hi hx h ho hf).weak fun D σ H ⟨τ, S, DA, R, so, ⟨d, hd, q⟩, k⟩ => by
  obtain ⟨v, hv, r⟩ := R.at_ i d hd
  exact ⟨v, hv, τ, S, _, R, so, q, fun w H1 e S1 so1 st1 r1 ⟨ok, q1⟩ => ⟨d, e, S1, r.step st1, r1, so1, ok, fun z H2 so2 st2 r2 => k.nx _ H2 _ S1 so2 (st1.trans st2) (((R.step st1).step st2).set r2 i) q1⟩⟩

/-! ### while, for -/
def aWhile (tc : AT) (tb : AS) : AS := fun D τ S => ∃ W : Nat → ASt → Store → Prop, (∃ m, W m τ S) ∧ ∀ m τ S, W m τ S → tc τ S fun b S1 =>
  if b = true then tb { D with nx := fun τ' S' => ∃ m', m' < m ∧ W m' τ' S', ct := fun τ' S' => ∃ m', m' < m ∧ W m' τ' S', bk := D.nx } τ S1 else D.nx τ S1
theorem s_while {body : List Stmt} (hp : PassesOwn (model X.prog X.w) X.A X.env X.xe) (hc : PT X c (lowT (kx X bb) tt)) (hb : PSs X body (lowS (kx X bb) t)) : PS X (.While c body [] pos) (lowS (kx X bb) (aWhile tt t)) := (ps_while hp hc hb).weak fun D σ H ⟨τ, S, DA, R, so, ⟨W, ⟨m, w0⟩, hw⟩, k⟩ => by
  refine ⟨fun m σ' H' => ∃ τ' S', W m τ' S' ∧ Rp (kx X bb) H' S' σ' τ' ∧ StOk X.K H' S' ∧ Step H S H' S', ⟨m, τ, S, w0, R, so, .refl⟩, fun m σ1 H1 ⟨τ1, S1, w1, R1, so1, st1⟩ => ?_⟩
  refine ⟨τ1, S1, _, R1, so1, hw m τ1 S1 w1, fun b H2 S2 so2 st2 q2 => ?_⟩
  cases b with
  | false => rw [if_neg Bool.false_ne_true] at q2 ⊢; exact k.nx σ1 H2 τ1 S2 so2 (st1.trans st2) (R1.step st2) q2
  | true =>
    rw [if_pos rfl] at q2 ⊢
    have nx : ∀ σ' H' τ' S', StOk X.K H' S' → Step H2 S2 H' S' → Rp (kx X bb) H' S' σ' τ' → (∃ m', m' < m ∧ W m' τ' S') → ∃ m', m' < m ∧ ∃ τ' S', W m' τ' S' ∧ Rp (kx X bb) H' S' σ' τ' ∧ StOk X.K H' S' ∧ Step H S H' S' :=
      fun σ' H' τ' S' so' st' R' ⟨m', lt, w'⟩ => ⟨m', lt, τ', S', w', R', so', (st1.trans st2).trans st'⟩
    exact ⟨_, fun σ' H' h => h, τ1, S2, _, R1.step st2, so2, q2, nx, fun v H' d S' so' st' => k.rt v H' d S' so' ((st1.trans st2).trans st'), fun σ' H' τ' S' so' st' => k.nx σ' H' τ' S' so' ((st1.trans st2).trans st'), nx⟩
def aFor (ai : AI) (ag : AG) (tb : AS) : AS := fun D τ S => ai τ S fun xs G S1 => ∃ I : Nat → ASt → Store → Prop, I 0 τ S1 ∧
  (∀ (i : Nat) x τ2 S2, xs[i]? = some x → I i τ2 S2 → G S2 ∧ ag x τ2 S2 fun τ3 S3 => tb { D with nx := I (i + 1), ct := I (i + 1), bk := D.nx } τ3 S3) ∧ (∀ τ2 S2, I xs.length τ2 S2 → G S2 ∧ D.nx τ2 S2)
theorem s_for {tg iter : Expr} {body : List Stmt} {ai : AI} {g : AG} (hp : PassesOwn (model X.prog X.w) X.A X.env X.xe) (hc : X.calm = true) (hi : PI X tg iter (lowI (kx X bb) ai)) (hg : PG X tg (lowG (kx X bb) g)) (hb : PSs X body (lowS (kx X bb) t))
    (hs : ∀ x, foldedSetIterable iter X.env x = pure x := by intro _; rfl) : PS X (.For tg iter body [] pos) (lowS (kx X bb) (aFor ai g t)) := (ps_for hp hc hi hg hb hs).weak fun D σ H ⟨τ, S, DA, R, so, q, k⟩ =>
  ⟨τ, S, _, R, so, q, fun J H1 xs G S1 so1 st1 it ⟨I, i0, hstep, hend⟩ => by
    refine ⟨fun i m σ' H' => ∃ τ' S', I i τ' S' ∧ i + m = xs.length ∧ Rp (kx X bb) H' S' σ' τ' ∧ StOk X.K H' S' ∧ Step H1 S1 H' S', ⟨xs.length, τ, S1, i0, by omega, R.step st1, so1, .refl⟩, fun i m σ2 H2 ⟨τ2, S2, w2, hm, R2, so2, st2⟩ => ?_⟩
    by_cases hi : i < xs.length
    · right
      have hx : xs[i]? = some xs[i] := List.getElem?_eq_getElem hi
      obtain ⟨hG, hq⟩ := hstep i _ τ2 S2 hx w2
      obtain ⟨hgo, hy⟩ := (it H2 S2 so2 st2 hG).1 i _ hx
      have nx : ∀ σ' H' τ' S', StOk X.K H' S' → Step H2 S2 H' S' → Rp (kx X bb) H' S' σ' τ' → I (i + 1) τ' S' → ∃ m', m' < m ∧ ∃ τ' S', I (i + 1) τ' S' ∧ i + 1 + m' = xs.length ∧ Rp (kx X bb) H' S' σ' τ' ∧ StOk X.K H' S' ∧ Step H1 S1 H' S' :=
        fun σ' H' τ' S' so' st' R' w' => ⟨m - 1, by omega, τ', S', w', by omega, R', so', st2.trans st'⟩
      refine ⟨hgo, _, fun σ' H' h => h, fun v H3 hv => ?_⟩
      obtain ⟨so3, st3, r3⟩ := hy v H3 hv
      exact ⟨_, τ2, S2, _, r3, R2.step st3, so3, hq, fun σ4 H4 τ4 S4 so4 st4 R4 q4 => ⟨τ4, S4, _, R4, so4, q4, fun σ' H' τ' S' so' st' R' w' => nx σ' H' τ' S' so' ((st3.trans st4).trans st') R' w',
        fun v H' d S' so' st' => k.rt v H' d S' so' (((st1.trans st2).trans (st3.trans st4)).trans st'), fun σ' H' τ' S' so' st' => k.nx σ' H' τ' S' so' (((st1.trans st2).trans (st3.trans st4)).trans st'), fun σ' H' τ' S' so' st' R' w' => nx σ' H' τ' S' so' ((st3.trans st4).trans st') R' w'⟩⟩
    · left
      have e : i = xs.length := by omega
      subst e
      obtain ⟨hG, hq⟩ := hend τ2 S2 w2
      exact ⟨(it H2 S2 so2 st2 hG).2, k.nx σ2 H2 τ2 S2 so2 (st1.trans st2) R2 hq⟩⟩

/-! ### what a for walks -/
variable {tg : Expr}
/-- a list -/
def aiLst (ta : AE) : AI := fun τ S Q => ta τ S fun d S1 => ∃ xs, lstA S1 d = some xs ∧ Q xs (fun S2 => lstA S2 d = some xs) S1
theorem i_lst (h : PE X e (low (kx X bb) ta)) : PI X tg e (lowI (kx X bb) (aiLst ta)) := (pi_list h).weak fun σ H R ⟨τ, S, Q, Rr, so, q, k⟩ => ⟨τ, S, _, Rr, so, q, fun v H1 d S1 so1 st1 r1 ⟨xs, e, q1⟩ => by
  obtain ⟨a, vs, rfl, hl, rs⟩ := rel_lstE so1 r1 e
  refine ⟨a, rfl, ⟨vs, hl⟩, k _ H1 xs _ S1 so1 st1 (fun H' S' so' st' g => ?_) q1⟩
  obtain ⟨a', ws, ea, hl', rs'⟩ := rel_lstE so' (r1.step st') g
  cases ea
  refine ⟨fun i x hx => ?_, ws, hl', by rw [rs'.length]; exact Nat.le_refl _⟩
  obtain ⟨w, hw, rw'⟩ := rs'.get hx
  refine ⟨⟨ws, w, hl', hw⟩, fun v H'' ⟨e1, e2⟩ => ?_⟩
  subst e1
  have := e2 ws hl'
  rw [hw] at this
  cases this
  exact ⟨so', .refl, rw'⟩⟩
def aiTup (ta : AE) : AI := fun τ S Q => ta τ S fun d S1 => ∃ xs, d = .tup xs ∧ Q xs (fun _ => True) S1
theorem i_tup (h : PE X e (low (kx X bb) ta)) : PI X tg e (lowI (kx X bb) (aiTup ta)) := (pi_tup h).weak fun σ H R ⟨τ, S, Q, Rr, so, q, k⟩ => ⟨τ, S, _, Rr, so, q, fun v H1 d S1 so1 st1 r1 ⟨xs, e, q1⟩ => by
  subst e
  obtain ⟨a, vs, rfl, hl, rs⟩ := rel_tupE r1
  refine ⟨a, rfl, ⟨vs, hl⟩, k _ H1 xs _ S1 so1 st1 (fun H' S' so' st' g => ?_) q1⟩
  obtain ⟨a', ws, ea, hl', rs'⟩ := rel_tupE (r1.step st')
  cases ea
  refine ⟨fun i x hx => ?_, ws, hl', by rw [rs'.length]; exact Nat.le_refl _⟩
  obtain ⟨w, hw, rw'⟩ := rs'.get hx
  refine ⟨⟨ws, w, hl', hw⟩, fun v H'' ⟨e1, e2⟩ => ?_⟩
  subst e1
  have := e2 ws hl'
  rw [hw] at this
  cases this
  exact ⟨so', .refl, rw'⟩⟩
/-- a text, sign by sign -/
def signsA (z : Str) : List AV := z.cps.toList.map fun c => .str ⟨#[c]⟩
def aiStr (ta : AE) : AI := fun τ S Q => ta τ S fun d S1 => ∃ z, d = .str z ∧ Q (signsA z) (fun _ => True) S1
theorem i_str (h : PE X e (low (kx X bb) ta)) : PI X tg e (lowI (kx X bb) (aiStr ta)) := (pi_str h).weak fun σ H R ⟨τ, S, Q, Rr, so, q, k⟩ => ⟨τ, S, _, Rr, so, q, fun v H1 d S1 so1 st1 r1 ⟨z, e, q1⟩ => by
  subst e
  obtain rfl := rel_strE r1
  refine ⟨z, rfl, k _ H1 _ _ S1 so1 st1 (fun H' S' so' st' g => ?_) q1⟩
  have hl : (signsA z).length = z.cps.size := by unfold signsA; rw [List.length_map, Array.length_toList]
  refine ⟨fun i x hx => ?_, by show z.cps.size ≤ (signsA z).length; omega⟩
  have hi : i < z.cps.size := by have := (List.getElem?_eq_some_iff.mp hx).1; omega
  refine ⟨hi, fun v H'' ⟨e1, c, hc, ev⟩ => ?_⟩
  subst e1 ev
  have hx' : x = .str ⟨#[c]⟩ := by
    unfold signsA at hx
    rw [List.getElem?_map, Array.getElem?_toList, hc] at hx
    cases hx
    rfl
  subst hx'
  exact ⟨so', .refl, .str _⟩⟩
/-- range(n), range(a, b) -/
def rngA (a : Int) (n : Nat) : List AV := (List.range n).map fun i => .int (a + (i : Nat))
theorem rngA_len (a : Int) (n : Nat) : (rngA a n).length = n := by unfold rngA; rw [List.length_map, List.length_range]
theorem rngA_get {a : Int} {n i : Nat} {x : AV} (h : (rngA a n)[i]? = some x) : i < n ∧ x = .int (a + (i : Nat)) := by
  have hi : i < n := by have := (List.getElem?_eq_some_iff.mp h).1; rwa [rngA_len] at this
  unfold rngA at h
  rw [List.getElem?_map, List.getElem?_range hi] at h
  cases h
  exact ⟨hi, rfl⟩
theorem rel_ints1 {K : PySem.W.Frag} {H : Hp} {S : Store} {vs : List V} {i : Int} (r : RelAs K H S vs [.int i]) : vs = [.int i] := by
  cases r with
  | cons r rr => cases rr; rw [rel_intE r]
theorem rel_ints2 {K : PySem.W.Frag} {H : Hp} {S : Store} {vs : List V} {i j : Int} (r : RelAs K H S vs [.int i, .int j]) : vs = [.int i, .int j] := by
  cases r with
  | cons r rr => rw [rel_intE r, rel_ints1 rr]
def aiRng1 (t : AA) : AI := fun τ S Q => t τ S fun ds S1 => ∃ j : Int, ds = [.int j] ∧ -(2 ^ 62) ≤ j ∧ j < 2 ^ 62 ∧ Q (rngA 0 j.toNat) (fun _ => True) S1
def aiRng2 (t : AA) : AI := fun τ S Q => t τ S fun ds S1 => ∃ i j : Int, ds = [.int i, .int j] ∧ (-(2 ^ 62) ≤ i ∧ i < 2 ^ 62 ∧ -(2 ^ 62) ≤ j ∧ j < 2 ^ 62) ∧ Q (rngA i (j - i).toNat) (fun _ => True) S1
theorem itr_ok {K : PySem.W.Frag} {H : Hp} {S : Store} {a : Int} {n : Nat} : ItOk K (Itr a n) H S (fun _ => True) (rngA a n) := fun H' S' so' st' g =>
  ⟨fun i x hx => ⟨(rngA_get hx).1, fun v H'' ⟨e1, e2⟩ => by subst e1 e2; rw [(rngA_get hx).2]; exact ⟨so', .refl, .int _⟩⟩, by show n ≤ (rngA a n).length; rw [rngA_len]; exact Nat.le_refl _⟩
theorem i_rng1 {t : AA} (hm : X.mg "range" = none) (ha : PA X [a] (lowA (kx X bb) t)) (hg : Gl X "range" := by rfl) (hs : starEach [a] X.env = [(false, eval a X.env)] := by rfl) : PI X tg (.Call (.Name "range" p) [a] [] pos) (lowI (kx X bb) (aiRng1 t)) :=
  (pi_range1 hg hm ha hs).weak fun σ H R ⟨τ, S, Q, Rr, so, q, k⟩ => ⟨τ, S, _, Rr, so, q, fun vs H1 ds S1 so1 st1 r1 ⟨j, e, h1, h2, q1⟩ => by
    subst e
    exact ⟨j, rel_ints1 r1, h1, h2, k _ H1 _ _ S1 so1 st1 itr_ok q1⟩⟩
theorem i_rng2 {t : AA} (hm : X.mg "range" = none) (ha : PA X [a, b] (lowA (kx X bb) t)) (hg : Gl X "range" := by rfl) (hs : starEach [a, b] X.env = [(false, eval a X.env), (false, eval b X.env)] := by rfl) (hs2 : starEach [b] X.env = [(false, eval b X.env)] := by rfl) :
    PI X tg (.Call (.Name "range" p) [a, b] [] pos) (lowI (kx X bb) (aiRng2 t)) :=
  (pi_range2 hg hm ha hs hs2).weak fun σ H R ⟨τ, S, Q, Rr, so, q, k⟩ => ⟨τ, S, _, Rr, so, q, fun vs H1 ds S1 so1 st1 r1 ⟨i, j, e, h1, q1⟩ => by
    subst e
    exact ⟨i, j, rel_ints2 r1, h1, k _ H1 _ _ S1 so1 st1 itr_ok q1⟩⟩
/-- enumerate(list) -/
def enumA (xs : List AV) : List AV := xs.mapIdx fun i x => .tup [.int (i : Nat), x]
theorem enumA_get {xs : List AV} {i : Nat} {y : AV} (h : (enumA xs)[i]? = some y) : ∃ x, xs[i]? = some x ∧ y = .tup [.int (i : Nat), x] := by
  unfold enumA at h
  rw [List.getElem?_mapIdx] at h
  cases z : xs[i]? with
  | none => rw [z] at h; cases h
  | some x => rw [z] at h; cases h; exact ⟨x, rfl, rfl⟩
theorem enumA_len (xs : List AV) : (enumA xs).length = xs.length := by unfold enumA; rw [List.length_mapIdx]
def aiEnum (t : AA) : AI := fun τ S Q => t τ S fun ds S1 => ∃ d xs, ds = [d] ∧ lstA S1 d = some xs ∧ Q (enumA xs) (fun S2 => lstA S2 d = some xs) S1
theorem i_enum {t : AA} {elts : List Expr} {kk : Nat} {tpos : Pos} (hm : X.mg "enumerate" = none) (ha : PA X [e] (lowA (kx X bb) t)) (hg : Gl X "enumerate" := by rfl) (hs : starEach [e] X.env = [(false, eval e X.env)] := by rfl) :
    PI X (.Tuple elts kk tpos) (.Call (.Name "enumerate" p) [e] [] pos) (lowI (kx X bb) (aiEnum t)) := (pi_enum hg hm ha hs).weak fun σ H R ⟨τ, S, Q, Rr, so, q, k⟩ => ⟨τ, S, _, Rr, so, q, fun vs H1 ds S1 so1 st1 r1 ⟨d, xs, e, el, q1⟩ => by
    subst e
    cases r1 with
    | cons r rr =>
      cases rr
      obtain ⟨a, ws, rfl, hl, rs⟩ := rel_lstE so1 r el
      refine ⟨a, ws, rfl, hl, k _ H1 _ _ S1 so1 st1 (fun H' S' so' st' g => ?_) q1⟩
      obtain ⟨a', us, ea, hl', rs'⟩ := rel_lstE so' (r.step st') g
      cases ea
      have W := walk_enum (K := X.K) (a := a) (xs := us)
      refine ⟨fun i x hx => ?_, ?_⟩
      · obtain ⟨y, hy, rfl⟩ := enumA_get hx
        obtain ⟨u, hu, ru⟩ := rs'.get hy
        refine ⟨W.goes i H' (List.getElem?_eq_some_iff.mp hu).1 hl', fun v H'' hv => ?_⟩
        obtain ⟨T, x1, y1, rfl, hT, rfl, e1, e2⟩ := W.yields i H' v H'' (List.getElem?_eq_some_iff.mp hu).1 hl' hv
        cases e1
        have e3 : us[i]? = some y1 := e2
        rw [hu] at e3
        cases e3
        exact ⟨stok_new so' hT, step_new so' hT, rel_tup so' hT (.cons (.int _) (.cons ru .nil))⟩
      · rw [enumA_len, ← rs'.length]
        exact W.stops H' hl'⟩
/-- zip of two lists, of two tuples -/
def zipA (xs ys : List AV) : List AV := List.zipWith (fun x y => .tup [x, y]) xs ys
theorem zipA_get {xs ys : List AV} {i : Nat} {z : AV} (h : (zipA xs ys)[i]? = some z) : ∃ x y, xs[i]? = some x ∧ ys[i]? = some y ∧ z = .tup [x, y] := by
  unfold zipA at h
  rw [List.getElem?_zipWith] at h
  cases hx : xs[i]? with
  | none => rw [hx] at h; cases h
  | some x =>
    cases hy : ys[i]? with
    | none => rw [hx, hy] at h; cases h
    | some y => rw [hx, hy] at h; cases h; exact ⟨x, y, rfl, rfl, rfl⟩
end
end L3

set_option Elab.async false
set_option linter.all false
set_option maxRecDepth 100000
set_option maxHeartbeats 2000000
set_option autoImplicit false
/-! L3G: promises of defs that are called where no guard stands (nothing is being shown): what repr wants. The same rule for a def, a call, the law's own call. -/
namespace L3
open PySem L2 PyProof.Rows
variable {bb : Birth}

/-- a def's promise where no guard stands -/
structure FnG (P : Program) (w : World) (K : PySem.W.Frag) (mg : Str → Option Value) (base : Heap) (k : Nat) (f : Addr) (fd : FuncData) (ps : List Str) (sp : Sp) : Prop where
  len : ∀ vs H Q E, sp vs H Q E → vs.length = ps.length
  go : ∀ (A : Around), A.guards = some [] → Room k A → ∀ (out : List Env) (s : Shared) (H : Hp) (ar : Args) (us : List Value) (vs : List V) (Q : VK) (E : XK), Env0 P w K mg base A out s H → BindsTo s fd ar (ps.zip us) → Vals vs us → sp vs H Q E →
    codeAny (model P w) A (.call (.ref f) ar) (fun r s' => CR CX0 out P w H s Q E r s') s
section
variable {P : Program} {w : World} {K : PySem.W.Frag} {mg : Str → Option Value} {base : Heap}
theorem FnG.up {j k : Nat} {f : Addr} {fd : FuncData} {ps : List Str} {sp : Sp} (F : FnG P w K mg base j f fd ps sp) (h : j ≤ k) : FnG P w K mg base k f fd ps sp := ⟨F.len, fun A g hr => F.go A g (hr.mono h)⟩
/-- a def by its body -/
theorem fng_of {x qual : Str} {st : Stmt} {f : Addr} {fd : FuncData} {N ps : List Str} {k : Nat} {sp : Sp} (F : L2.Fun K x qual st f fd) (S : FnScope N ps (defScope st)) (len : ∀ vs H Q E, sp vs H Q E → vs.length = ps.length)
    (body : ∀ (cdv : Value) (A : Around), A.guards = some [] → ∀ (out : List Env) (s : Shared) (H : Hp) (vs : List V) (Q : VK) (E : XK), Room k (A.deeper (envOfC qual (defScope st) s.heap.objs.size f cdv)) → sp vs H Q E →
      ∃ t, PSs (cxOf CX0 P w K mg base N qual (defScope st) f cdv A out s H E).nox (defBody st) t ∧ t { nx := fun _ H' => Q .non H', rt := Q } (L2.start N vs) H) : FnG P w K mg base (k + 1) f fd ps sp := by
  obtain ⟨oc, od, kV, doc, pm, an, cdv, ct, osl, rfl, lk, hcd⟩ := F.ex
  refine ⟨len, fun A hgd hr out s H ar us vs Q E e0 hb rv h => ?_⟩
  have kin : K.In s.heap := e0.mod.kin.keeps fun b o z => (e0.bs b o z).1
  have nol : s.heap.NoLimit := e0.mod.nolimit.keeps fun b o z => (e0.bs b o z).1
  have kinds : ∀ y ∈ ps.zip us, (defScope st).names.lookup y.1 = some .local ∨ ((defScope st).names.lookup y.1 = some .cell ∧ ((cellsFrom (s.heap.objs.size + 1) (defScope st).names []).lookup y.1).isSome = true) := by
    intro z hz
    cases S.par z.1 (List.of_mem_zip (a := z.1) (b := z.2) hz).1 with
    | inl q => exact Or.inl q
    | inr q => exact Or.inr ⟨q, PySem.W.cellsFrom_some _ _ _ (Or.inl q)⟩
  refine codeAny_call_function hr.depth (kin _ _ lk) rfl S.co S.gen rfl (PySem.W.codeRec_of kin hcd) (hb _ _ _ _ ?_)
  refine wpAny_newFunctionEnv_cells S.kind kinds fun env he s1 ic => ?_
  subst he
  refine ⟨nol.keeps ic.toInCall.keep, codeAny_func ?_⟩
  obtain ⟨t, ht, q⟩ := body cdv A hgd out s H vs Q E (hr.deeper _) h
  have J0 := inv_start (CX := CX0) (E := E) S hr.hd e0 (len vs H Q E h) rv ic
  refine wpAny_mono (ht.nox.run [] s1 (L2.start N vs) H _ J0 q) (fun fl s2 z => ?_) fun e s2 z => z
  cases fl with
  | brk => obtain ⟨_, _, _, z⟩ := z; cases z
  | cont => obtain ⟨_, _, _, z⟩ := z; cases z
  | next => obtain ⟨σ2, H2, J, z⟩ := z; exact ⟨V.non, H2, J.os, J.bare, J.base, J.hok, rfl, z⟩
  | ret u => obtain ⟨v, σ2, H2, J, r2, z⟩ := z; exact ⟨v, H2, J.os, J.bare, J.base, J.hok, r2, z⟩
/-- the callee runs -/
theorem run_g {X : Cx} {k : Nat} {f : Addr} {fd : FuncData} {ps : List Str} {sp : Sp} {pins : List (Addr × Obj)} {σ : L2.St} {H : Hp} {s : Shared} {Q : VK} {us : List Value} {vs : List V} (F : FnG X.prog X.w X.K X.mg X.base k f fd ps sp) (hg : X.A.guards = some [])
    (hr : Room k X.A) (hb : Binds X.K fd ps []) (I : Inv X pins σ H s) (r : Vals vs us) (h : sp vs H Q E0) : wpAny (model X.prog X.w) X.A (call (.ref f) us) (fun u s' => EP X pins σ Q u s') X.xe s := by
  have hl : (us ++ []).length = ps.length := by rw [List.append_nil, ← r.length]; exact F.len _ _ _ _ h
  have b := hb s us I.kIn hl
  rw [List.append_nil] at b
  refine wpAny_call (codeAny_mono (F.go X.A hg hr X.stack s H ⟨us, []⟩ us vs Q E0 I.env0 b r h) fun r' s' z => ?_)
  cases r' with
  | error e => exact False.elim z
  | ok fl =>
    cases fl with
    | brk => exact z.elim
    | cont => exact z.elim
    | next => exact z.elim
    | ret u => exact I.after z
section
variable {X : Cx} {k : Nat} {f : Addr} {fd : FuncData} {ps : List Str} {sp : Sp} {x : Str} {p pos : Pos} {e : Expr} {es : List Expr} {t : TA}
theorem pe_callG (F : FnG X.prog X.w X.K X.mg X.base k f fd ps sp) (gd : X.A.guards = some []) (hr : Room k X.A) (hg : Gl X x) (hm : X.mg x = some (.ref f)) (hk : PySem.W.keepIn X.K (.ref f) = true) (hb : Binds X.K fd ps [])
    (ha : PA X (e :: es) t) (hdb : (x == ("__debug__" : Str)) = false := by decide) (he : starEach (e :: es) X.env = (false, eval e X.env) :: starEach es X.env := by rfl) (hpl : (backTo pos (starEach es X.env)).any (·.1) = false := by rfl) :
    PE X (.Call (.Name x p) (e :: es) [] pos) (fun σ H Q => t σ H fun vs H1 => sp vs H1 Q E0) := ⟨fun pins s σ H Q I h =>
  wpAny_Call_Name_kw (ld_glob I hg hm (PySem.W.callWith_K (h₀ := X.base) I.ok.mod.kin hk (thn (ha.run pos pins s σ H _ I h) fun us s1 z => by
    obtain ⟨vs, H1, I1, r1, q1⟩ := z
    exact ⟨I1.kIn, run_g F gd hr hb I1 r1 q1⟩) he hpl) hdb)⟩
theorem pe_callG0 (F : FnG X.prog X.w X.K X.mg X.base k f fd ps sp) (gd : X.A.guards = some []) (hr : Room k X.A) (hg : Gl X x) (hm : X.mg x = some (.ref f)) (hk : PySem.W.keepIn X.K (.ref f) = true) (hb : Binds X.K fd ps [])
    (hdb : (x == ("__debug__" : Str)) = false := by decide) : PE X (.Call (.Name x p) [] [] pos) (fun _ H Q => sp [] H Q E0) := ⟨fun pins s σ H Q I h =>
  wpAny_Call_Name_kw (ld_glob I hg hm (PySem.W.callWith_K0 I.kIn hk (run_g (us := []) F gd hr hb I .nil h)) hdb)⟩
end
/-- the law's own call -/
theorem law_callG {mb : Str → Option Value} {k : Nat} {fa a : Addr} {fd : FuncData} {x : Str} {sp : Sp} {s₁ : Shared} {vs : List Value} {ns : List Int}
    (KX : K.In s₁.heap) (hns : s₁.heap.Ns mainGlobals mg) (hb : s₁.heap.Ns builtinsNs mb) (hbb : ∀ y : Str, y ≠ "__name__" → mb y = bootBuiltins y) (nol : s₁.heap.NoLimit) (hge : s₁.gens = #[])
    (ha : s₁.heap.get? a = some { cls := .type "list", data := .seq vs.toArray }) (hi : IntsAre vs ns) (hl : ns.length ≤ sizeLine) (hr : Room k callerA)
    (F : ∀ base : Heap, K.In base → base.Ns mainGlobals mg → FnG P w K mg base k fa fd [x] sp) (bind : ∀ (s : Shared) (u : Value), BindsTo s fd ⟨[u], []⟩ [(x, u)])
    (hsp : ∀ H : Hp, Only H → SqL K H a (ns.map V.int) → sp [.ref a] H (fun v _ => v = .bl true) fun _ _ _ => False) :
    codeAny (model P w) callerA (.call (.ref fa) ⟨[.ref a], []⟩) (fun r s' => r = .ok (.ret (.bool true)) ∧ OldK s₁.heap s'.heap ∧ s'.os = s₁.os ∧ AllBare s'.gens) s₁ := by
  have rv := vals_ints hi
  have nlen := hi.length
  suffices core : ∃ H : Hp, Only H ∧ SqL K H a (ns.map V.int) ∧ HOk P w H s₁.heap ∧ (∀ b, H b ≠ none → b = a) ∧ (H a ≠ none → K.lookup a = none) by
    obtain ⟨H, only, hS, hok, own, noK⟩ := core
    have untr : ∀ {b : Addr} {o : Obj} {es : Array DictEntry} {ep : Nat}, s₁.heap.get? b = some o → o.data = .dict es ep → H b = none := by
      intro b o es ep e d
      cases q : H b with
      | none => rfl
      | some u =>
        obtain rfl := own b (by rw [q]; exact Option.some_ne_none _)
        rw [ha] at e
        cases e
        exact (nomatch d)
    have ns' : ∀ {b : Addr} {m : Str → Option Value}, s₁.heap.Ns b m → (hidT s₁.heap H).Ns b m := by
      intro b m hm
      obtain ⟨o, es, ep, e, d, r⟩ := hm
      exact ⟨o, es, ep, hidT_get e (untr e d), d, r⟩
    have kb : K.In (hidT s₁.heap H) := by
      intro b o e
      refine hidT_get (KX b o e) ?_
      cases q : H b with
      | none => rfl
      | some u =>
        obtain rfl := own b (by rw [q]; exact Option.some_ne_none _)
        rw [noK (by rw [q]; exact Option.some_ne_none _)] at e
        cases e
    have m0 : Mod K mg (hidT s₁.heap H) := ⟨kb, ns' hns, ⟨mb, ns' hb, hbb⟩, by obtain ⟨mc, z1, z2⟩ := nol; exact ⟨mc, ns' z1, z2⟩⟩
    have e0 : Env0 P w K mg (hidT s₁.heap H) callerA [] s₁ H := ⟨rfl, m0, fun b o e => of_hidT e, Nat.le_of_eq (hidT_size _ _), trivial, (fun b z => absurd (show b ∈ ([] : List Addr) from z) List.not_mem_nil), hok, AllBare.of_eq hge⟩
    refine codeAny_mono ((F _ kb (ns' hns)).go callerA rfl hr [] s₁ H ⟨[.ref a], []⟩ [.ref a] [.ref a] _ _ e0 (bind s₁ (.ref a)) (.cons rfl .nil) (hsp H only hS)) fun r s2 z => ?_
    cases r with
    | error e => exact False.elim z
    | ok fl =>
      cases fl with
      | brk => exact z.elim
      | cont => exact z.elim
      | next => exact z.elim
      | ret u =>
        obtain ⟨v, H2, os, bare, un, hok2, rr, q⟩ := z
        cases q
        cases rr
        refine ⟨rfl, OldK.of_keep fun b o e => ?_, os, bare⟩
        cases q : H b with
        | none => exact un.keep b o e q (by rintro ⟨⟩) (by rintro ⟨⟩)
        | some u =>
          rcases only b with z | ⟨ob, xs, z⟩
          · rw [q] at z
            cases z
          · obtain ⟨e1, _⟩ := hok b _ z
            obtain ⟨e2, _⟩ := hok2 b _ (un.frzs b ob _ z)
            rw [e] at e1
            cases e1
            exact e2
  cases hk : K.lookup a with
  | some o =>
    have e := KX a o hk
    rw [ha] at e
    cases e
    exact ⟨fun _ => none, fun _ => Or.inl rfl, Or.inr ⟨_, vs.toArray, _, hk, rfl, rfl, rfl, by rw [List.size_toArray, nlen]; exact hl, by simpa using rv⟩, fun b u z => (nomatch z), fun b z => absurd rfl z, fun z => absurd rfl z⟩
  | none =>
    have here : ∀ b, b ≠ a → (fun b => if b = a then some (HO.frz { cls := .type "list", data := .seq vs.toArray } (.lst (ns.map V.int))) else none : Hp) b = none := fun b z => if_neg z
    have there : (fun b => if b = a then some (HO.frz { cls := .type "list", data := .seq vs.toArray } (.lst (ns.map V.int))) else none : Hp) a = some (HO.frz { cls := .type "list", data := .seq vs.toArray } (.lst (ns.map V.int))) := if_pos rfl
    refine ⟨(fun b => if b = a then some (HO.frz { cls := .type "list", data := .seq vs.toArray } (.lst (ns.map V.int))) else none : Hp), fun b => ?_, Or.inl (Or.inr ⟨_, there⟩), fun b u z => ?_, fun b z => ?_, fun _ => rfl⟩
    · by_cases hb : b = a
      · subst hb; exact Or.inr ⟨_, _, there⟩
      · exact Or.inl (here b hb)
    · by_cases hb : b = a
      · subst hb
        have z2 := there.symm.trans z
        cases z2
        exact ⟨ha, by rw [List.length_map]; exact hl, vs, _, rv, ha⟩
      · have z2 := (here b hb).symm.trans z
        cases z2
    · by_cases hb : b = a
      · exact hb
      · exact absurd (here b hb) z
end
/-- the row's end -/
theorem walk_ofG {l : PySem.W.OpenLaw} {n k : Nat} {q : Program} {loose : List Str} {XP : (Str → Option Value) → Heap → Prop} {YP : World → Heap → Prop} {d : DefRec} {K : Params → PySem.W.Frag} {sp : PySem.W.Frag → Sp} {x : Str}
    (hn : l.most = some n) (hn2 : n ≤ sizeLine) (hdf : d.params.defaults = []) (hr : Room k callerA) (hY : ∀ (w : World) (h : Heap), YP w h → (K w.params).In h)
    (F : ∀ (w : World) (mg : Str → Option Value) (fa : Addr) (h : Heap), (K w.params).In h → h.Ns mainGlobals mg → XP mg h → mg d.name = some (.ref fa) →
      ∃ fd : FuncData, (∀ (s : Shared) (u : Value), BindsTo s fd ⟨[u], []⟩ [(x, u)]) ∧ ∀ base : Heap, (K w.params).In base → base.Ns mainGlobals mg → FnG l.prog w (K w.params) mg base k fa fd [x] (sp (K w.params)))
    (hsp : ∀ (K : PySem.W.Frag) (H : Hp) (a : Addr) (ns : List Int), ns.length ≤ n → Only H → SqL K H a (ns.map V.int) → sp K [.ref a] H (fun v _ => v = .bl true) fun _ _ _ => False) :
    PySem.W.WalkO q loose XP YP l.row.toRowW d [] (fun f vs => PySem.call f vs) := by
  refine Att.attach_call hn hdf fun w s0 s1 mg mb fa o pm cd doc a vs ns G Y ho hd hcd hmg hobj hints hlen hgen => ?_
  obtain ⟨fd, bind, hF⟩ := F w mg fa _ (hY w _ Y) G.T.g G.X hmg
  exact law_callG (hY w _ Y) G.T.g G.T.b G.T.builtins G.T.nolimit hgen hobj hints (Nat.le_trans hlen hn2) hr hF bind fun H only hS => hsp (K w.params) H a ns hlen only hS

/-! ### over L3 -/
structure Fn4 (P : Program) (w : World) (K : PySem.W.Frag) (mg : Str → Option Value) (base : Heap) (k : Nat) (x : Str) (ps : List Str) (asp : ASp) : Prop where
  ex : ∃ (f : Addr) (fd : FuncData), FnG P w K mg base k f fd ps (spOf K asp) ∧ mg x = some (.ref f) ∧ PySem.W.keepIn K (.ref f) = true ∧ Binds K fd ps []
theorem Fn4.up {P : Program} {w : World} {K : PySem.W.Frag} {mg : Str → Option Value} {base : Heap} {j k : Nat} {x : Str} {ps : List Str} {asp : ASp} (F : Fn4 P w K mg base j x ps asp) (h : j ≤ k) : Fn4 P w K mg base k x ps asp :=
  let ⟨f, fd, G, r⟩ := F.ex
  ⟨f, fd, G.up h, r⟩
/-- THE RULE for a def over L3 -/
theorem _root_.L2.Fun.ok4 {P : Program} {w : World} {K : PySem.W.Frag} {mg : Str → Option Value} {base : Heap} {x qual : Str} {st : Stmt} {f : Addr} {fd : FuncData} {N ps : List Str} {k : Nat} {asp : ASp} (F : L2.Fun K x qual st f fd) (S : FnScope N ps (defScope st))
    (len : ∀ ds S Q, asp ds S Q → ds.length = ps.length)
    (hbody : ∀ (cdv : Value) (A : Around), A.guards = some [] → ∀ (outer : List Env) (s : Shared) (H : Hp) (E : XK), Room k (A.deeper (envOfC qual (defScope st) s.heap.objs.size f cdv)) →
      ∃ as, PSs (cxOf CX0 P w K mg base N qual (defScope st) f cdv A outer s H E).nox (defBody st) (lowS ⟨K, b0⟩ as) ∧ ∀ ds S Q, asp ds S Q → as { nx := fun _ S' => RtW Q .non S', rt := RtW Q } (startA N ds) S) : FnG P w K mg base (k + 1) f fd ps (spOf K asp) :=
  fng_of F S (fun vs H Q E h => by obtain ⟨ds, S, Q', r, so, q, _⟩ := h; rw [r.length]; exact len ds S Q' q) fun cdv A gd outer s H vs QH E hr h => by
    obtain ⟨ds, S, Q, r, so, q, k⟩ := h
    obtain ⟨as, hp, ha⟩ := hbody cdv A gd outer s H E hr
    have rt : ∀ v H' d S', StOk K H' S' → Step H S H' S' → RelA K H' S' v d → RtW Q d S' → QH v H' := fun v H' d S' so' st' r' ⟨d2, S2, sb, hd, q2⟩ => by
      rcases hd with rfl | ⟨l, ds, rfl, hl, hn, rfl⟩
      · exact k d2 S2 v H' (so'.sub sb) (st'.subR sb) (r'.sub sb) q2
      · obtain rfl := rel_refE r'
        obtain ⟨vs, hv, rv⟩ := so' l _ hl
        exact k _ S2 _ H' (so'.sub sb) (st'.subR sb) (.lst hv hn (rv.sub sb)) q2
    exact ⟨_, hp, startA N ds, S, _, rp_start (k := ⟨K, b0⟩) trivial r, so, ha ds S Q q, fun σ' H' τ' S' so' st' _ q' => rt .non H' .non S' so' st' .non q', rt, fun _ _ _ _ _ _ _ z => z.elim, fun _ _ _ _ _ _ _ z => z.elim⟩
section
variable {X : Cx} {e : Expr} {es : List Expr} {pos p : Pos}
theorem f_call {k : Nat} {x : Str} {ps : List Str} {asp : ASp} {t : AA} (F : Fn4 X.prog X.w X.K X.mg X.base k x ps asp) (gd : X.A.guards = some []) (hr : Room k X.A) (ha : PA X (e :: es) (lowA (kx X bb) t)) (hg : Gl X x := by rfl)
    (hdb : (x == ("__debug__" : Str)) = false := by decide) (he : starEach (e :: es) X.env = (false, eval e X.env) :: starEach es X.env := by rfl) (hpl : (backTo pos (starEach es X.env)).any (·.1) = false := by rfl) :
    PE X (.Call (.Name x p) (e :: es) [] pos) (low (kx X bb) (aCall asp t)) := by
  obtain ⟨f, fd, G, hm, hk, hb⟩ := F.ex
  exact (pe_callG G gd hr hg hm hk hb ha hdb he hpl).weak fun σ H QH ⟨τ, S, Q, R, so, q, k⟩ => ⟨τ, S, _, R, so, q, fun vs H1 ds S1 so1 st1 r1 q1 =>
    ⟨ds, S1, Q, r1, so1, q1, fun d S' v H' so' st' r' q' => k v H' d S' so' (st1.trans st') r' q'⟩⟩
theorem f_call0 {k : Nat} {x : Str} {ps : List Str} {asp : ASp} (F : Fn4 X.prog X.w X.K X.mg X.base k x ps asp) (gd : X.A.guards = some []) (hr : Room k X.A) (hg : Gl X x := by rfl) (hdb : (x == ("__debug__" : Str)) = false := by decide) :
    PE X (.Call (.Name x p) [] [] pos) (low (kx X bb) (aCall asp aNil)) := by
  obtain ⟨f, fd, G, hm, hk, hb⟩ := F.ex
  exact (pe_callG0 G gd hr hg hm hk hb hdb).weak fun σ H QH ⟨τ, S, Q, R, so, q, k⟩ => ⟨[], S, Q, .nil, so, q, fun d S' v H' so' st' r' q' => k v H' d S' so' st' r' q'⟩
end
/-- the end, with an L3 promise of the law: the script is a list that may be read -/
theorem sp_end {K : PySem.W.Frag} {asp : ASp} {H : Hp} {a : Addr} {ns : List Int} (only : Only H) (hS : SqL K H a (ns.map V.int)) (h : ∀ S Q, (∀ S', Q (.bl true) S') → asp [.rol (ns.map .int)] S Q) :
    spOf K asp [.ref a] H (fun v _ => v = .bl true) fun _ _ _ => False := by
  have allInts : ∀ ns : List Int, RelAs K H (fun _ => none) (ns.map V.int) (ns.map AV.int) := fun ns => by
    induction ns with
    | nil => exact .nil
    | cons n r ih => exact .cons (.int n) ih
  have r : RelA K H (fun _ => none) (.ref a) (.rol (ns.map .int)) := by
    rcases hS with h | h
    · exact .rol h rfl (allInts ns)
    · exact .rolK h (allInts ns)
  exact ⟨_, fun _ => none, fun d _ => d = .bl true, .cons r .nil, fun b o z => (nomatch z), h _ _ fun S' => rfl, fun d S' v H' so' st' r' e => by subst e; exact rel_blE r'⟩
end L3

set_option Elab.async false
set_option linter.all false
set_option maxRecDepth 100000
set_option maxHeartbeats 2000000
set_option autoImplicit false
/-! L3D: operators, calls of builtins, methods, slices, comprehensions over L3. -/
namespace L3
open PySem L2
variable {bb : Birth}

/-! ### data -/
mutual
def toD : AV → PyData
  | .non => .none
  | .bl b => .bool b
  | .int i => .int i
  | .str x => .str x
  | .tup xs => .tuple (toDs xs)
  | .lst xs => .list (toDs xs)
  | .rol xs => .list (toDs xs)
  | .ref _ => .none
  | .ty _ => .none
def toDs : List AV → List PyData
  | [] => []
  | x :: xs => toD x :: toDs xs
end
mutual
/-- data alone: no address within -/
def flatA : AV → Bool
  | .tup xs => flatAs xs
  | .lst xs => flatAs xs
  | .rol xs => flatAs xs
  | .ref _ => false
  | .ty _ => false
  | _ => true
def flatAs : List AV → Bool
  | [] => true
  | x :: xs => flatA x && flatAs xs
end
def derefA (S : Store) : AV → AV
  | .ref l => match S l with
    | some (.lst xs) => .lst xs
    | _ => .ref l
  | x => x
theorem derefA_ref {S : Store} {l : Addr} {xs : List AV} (h : S l = some (.lst xs)) : derefA S (.ref l) = .lst xs := by
  show (match S l with | some (.lst xs) => AV.lst xs | _ => .ref l) = .lst xs
  rw [h]
mutual
theorem RelA.dp {K : PySem.W.Frag} {H : Hp} {S : Store} : ∀ {v : V} {d : AV}, RelA K H S v d → flatA d = true → Dp K H v (toD d)
  | _, _, .non, _ => .non
  | _, _, .bl b, _ => .bl b
  | _, _, .int i, _ => .int i
  | _, _, .str x, _ => .str x
  | _, _, .ty n, e => by cases e
  | _, _, .ref a, e => by cases e
  | _, _, .tup h n r, e => .tup (.inl h) (RelAs.dp r e)
  | _, _, .tupK h r, e => .tup (.inr h) (RelAs.dp r e)
  | _, _, .lst h n r, e => .lst (.inl (.inl h)) (RelAs.dp r e)
  | _, _, .rol h n r, e => .lst (.inl h) (RelAs.dp r e)
  | _, _, .rolK h r, e => .lst (.inr h) (RelAs.dp r e)
theorem RelAs.dp {K : PySem.W.Frag} {H : Hp} {S : Store} : ∀ {vs : List V} {ds : List AV}, RelAs K H S vs ds → flatAs ds = true → DpAll K H vs (toDs ds)
  | _, _, .nil, _ => .nil
  | _, _, .cons r t, e => .cons (RelA.dp r (Bool.and_eq_true_iff.mp e).1) (RelAs.dp t (Bool.and_eq_true_iff.mp e).2)
end
def datA (S : Store) (x : AV) : PyData := toD (derefA S x)
theorem RelA.dpS {K : PySem.W.Frag} {H : Hp} {S : Store} {v : V} {d : AV} (so : StOk K H S) (r : RelA K H S v d) (e : flatA (derefA S d) = true) : Dp K H v (datA S d) := by
  cases d with
  | ref l =>
    unfold datA
    cases z : S l with
    | none => simp only [derefA, z] at e; cases e
    | some o =>
      cases o with
      | lst xs =>
        rw [derefA_ref z] at e ⊢
        obtain rfl := rel_refE r
        obtain ⟨vs, h, q⟩ := so l _ z
        exact .lst (.inl (.inl h)) (q.dp e)
      | dK _ => simp only [derefA, z] at e; cases e
      | _ => simp only [derefA, z] at e; cases e
  | non => exact r.dp e
  | bl _ => exact r.dp e
  | int _ => exact r.dp e
  | str _ => exact r.dp e
  | tup _ => exact r.dp e
  | lst _ => exact r.dp e
  | rol _ => exact r.dp e
  | ty _ => exact r.dp e

/-! ### operators -/
/-- a list that stands as a list of the heap -/
def wstA (S : Store) : AV → Option (List AV)
  | .lst xs => some xs
  | .ref l => match S l with
    | some (.lst xs) => some xs
    | _ => none
  | _ => none
theorem wstA_ref {S : Store} {l : Addr} {xs : List AV} (h : S l = some (.lst xs)) : wstA S (.ref l) = some xs := by
  show (match S l with | some (.lst xs) => some xs | _ => none) = some xs
  rw [h]
theorem rel_wstE {K : PySem.W.Frag} {H : Hp} {S : Store} {v : V} {d : AV} {ds : List AV} (so : StOk K H S) (r : RelA K H S v d) (e : wstA S d = some ds) : ∃ a vs, v = .ref a ∧ H a = some (.lst vs) ∧ RelAs K H S vs ds := by
  cases r with
  | lst h n q => cases e; exact ⟨_, _, rfl, h, q⟩
  | ref a =>
    have e' : (match S a with | some (.lst xs) => some xs | _ => none) = some ds := e
    cases z : S a with
    | none => rw [z] at e'; cases e'
    | some o =>
      rw [z] at e'
      cases o with
      | lst xs =>
        cases e'
        obtain ⟨vs, h, q⟩ := so a _ z
        exact ⟨_, _, rfl, h, q⟩
      | dK _ => cases e'
      | _ => cases e'
  | rol h n q => cases e
  | rolK h q => cases e
  | non => cases e
  | bl _ => cases e
  | int _ => cases e
  | str _ => cases e
  | ty _ => cases e
  | tup _ _ _ => cases e
  | tupK _ _ => cases e
def badA : Ans := ⟨False, .non⟩
def catA : Option (List AV) → Option (List AV) → Ans
  | some xs, some ys => ⟨xs.length + ys.length ≤ sizeLine, .lst (xs ++ ys)⟩
  | _, _ => badA
def addA (x y : AV) (S : Store) : Ans := match x with
  | .int i => match y with
    | .int j => ⟨True, .int (i + j)⟩
    | _ => badA
  | .str i => match y with
    | .str j => ⟨i.length + j.length ≤ sizeLine, .str (i ++ j)⟩
    | _ => badA
  | .tup xs => match y with
    | .tup ys => ⟨xs.length + ys.length ≤ sizeLine, .tup (xs ++ ys)⟩
    | _ => badA
  | .lst xs => catA (some xs) (wstA S y)
  | .ref l => catA (wstA S (.ref l)) (wstA S y)
  | _ => badA
section
variable {X : Cx}
theorem oa_cat {x y : V} {dx dy : AV} {S : Store} {H : Hp} {QH : VK} (so : StOk X.K H S) (rx : RelA X.K H S x dx) (ry : RelA X.K H S y dy) (ok : (catA (wstA S dx) (wstA S dy)).ok)
    (k : ∀ v H', StOk X.K H' S → Step H S H' S → RelA X.K H' S v (catA (wstA S dx) (wstA S dy)).v → QH v H') : rCat x y H QH := by
  cases ex : wstA S dx with
  | none => rw [ex] at ok; exact ok.elim
  | some xs =>
    cases ey : wstA S dy with
    | none => rw [ex, ey] at ok; exact ok.elim
    | some ys =>
      rw [ex, ey] at ok k
      obtain ⟨a, vs, rfl, ha, ra⟩ := rel_wstE so rx ex
      obtain ⟨b, ws, rfl, hb, rb⟩ := rel_wstE so ry ey
      refine ⟨a, b, vs, ws, rfl, rfl, ha, hb, by rw [ra.length, rb.length]; exact ok, fun p hp => ?_⟩
      exact k _ _ (stok_new so hp) (step_new so hp) (rel_lst so hp (ra.app rb))
theorem o_add : OpR X (binaryOp .Add) (lowO X.K addA) := opr_weak (OpR.or op_add (OpR.or op_add_str (OpR.or op_catA op_cat))) fun x y H QH ⟨dx, dy, S, rx, ry, so, ok, k⟩ => by
  cases dx with
  | int i =>
    cases dy with
    | int j => obtain rfl := rel_intE rx; obtain rfl := rel_intE ry; exact .inl ⟨i, j, rfl, rfl, k _ H so .refl (.int _)⟩
    | _ => exact ok.elim
  | str i =>
    cases dy with
    | str j => obtain rfl := rel_strE rx; obtain rfl := rel_strE ry; exact .inr (.inl ⟨i, j, rfl, rfl, ok, k _ H so .refl (.str _)⟩)
    | _ => exact ok.elim
  | tup xs =>
    cases dy with
    | tup ys =>
      obtain ⟨a, vs, rfl, ha, ra⟩ := rel_tupE rx
      obtain ⟨b, ws, rfl, hb, rb⟩ := rel_tupE ry
      refine .inr (.inr (.inl ⟨a, b, vs, ws, rfl, rfl, ha, hb, by rw [ra.length, rb.length]; exact ok, fun e => ?_, fun _ e => ?_, fun _ _ p hp => ?_⟩))
      · subst e; cases ra; exact k _ H so .refl ry
      · subst e
        cases rb
        refine k _ H so .refl ?_
        show RelA X.K H S (.ref a) (.tup (xs ++ []))
        rw [List.append_nil]
        exact rx
      · exact k _ _ (stok_new so hp) (step_new so hp) (rel_tup so hp (ra.app rb))
    | _ => exact ok.elim
  | lst xs => exact .inr (.inr (.inr (oa_cat (dx := .lst xs) so rx ry ok k)))
  | ref l => exact .inr (.inr (.inr (oa_cat (dx := .ref l) so rx ry ok k)))
  | _ => exact ok.elim
/-- an operation on two ints -/
def intA (C : Int → Int → Prop) (g : Int → Int → Int) (x y : AV) (_ : Store) : Ans := match x with
  | .int i => match y with
    | .int j => ⟨C i j, .int (g i j)⟩
    | _ => badA
  | _ => badA
theorem o_int {f : Value → Value → Sem Value} {C : Int → Int → Prop} {g : Int → Int → Int} (h : OpR X f (rI C fun i j => .int (g i j))) : OpR X f (lowO X.K (intA C g)) := opr_weak h fun x y H QH ⟨dx, dy, S, rx, ry, so, ok, k⟩ => by
  cases dx with
  | int i =>
    cases dy with
    | int j => obtain rfl := rel_intE rx; obtain rfl := rel_intE ry; exact ⟨i, j, rfl, rfl, ok, k _ H so .refl (.int _)⟩
    | _ => exact ok.elim
  | _ => exact ok.elim
theorem rI_tt {f : Value → Value → Sem Value} {g : Int → Int → V} (h : OpR X f (rI0 g)) : OpR X f (rI (fun _ _ => True) g) := opr_weak h fun x y H Q ⟨i, j, e1, e2, _, q⟩ => ⟨i, j, e1, e2, q⟩
def subA := intA (fun _ _ => True) fun i j => i - j
theorem o_sub : OpR X (binaryOp .Sub) (lowO X.K subA) := o_int (rI_tt op_sub)
def CMulB (i j : Int) : Prop := CMul i j ∨ CMulW i j
def mulA := intA CMulB fun i j => i * j
theorem o_mul : OpR X (binaryOp .Mult) (lowO X.K mulA) := o_int (opr_weak (OpR.or op_mul op_mulW) fun x y H Q ⟨i, j, e1, e2, c, q⟩ => by
  rcases c with c | c
  · exact .inl ⟨i, j, e1, e2, c, q⟩
  · exact .inr ⟨i, j, e1, e2, c, q⟩)
def modA := intA (fun _ j => 0 < j) fun i j => i % j
theorem o_mod : OpR X (binaryOp .Mod) (lowO X.K modA) := o_int op_mod
def fdivA := intA CDivW fun i j => i / j
theorem o_fdiv : OpR X (binaryOp .FloorDiv) (lowO X.K fdivA) := o_int op_fdivW
def CPowB (i j : Int) : Prop := 0 ≤ j ∧ (Builtin.Int.intBits i : Int) * j ≤ 2 ^ 27
def powA := intA CPowB fun i j => i ^ j.toNat
theorem op_powB : OpR X (binaryOp .Pow) (rI CPowB fun i j => .int (i ^ j.toNat)) := opI fun _ _ _ _ _ _ _ hc q => PyProof.Rows.pow_int hc.1 hc.2 q
theorem o_pow : OpR X (binaryOp .Pow) (lowO X.K powA) := o_int op_powB
def negA (x : AV) (_ : Store) : Ans := match x with
  | .int i => ⟨True, .int (-i)⟩
  | _ => badA
theorem o_neg : UnR X (unaryOp .USub) (lowU X.K negA) := unr_weak un_neg fun x H QH ⟨dx, S, rx, so, ok, k⟩ => by
  cases dx with
  | int i => obtain rfl := rel_intE rx; exact ⟨i, rfl, k _ H so .refl (.int _)⟩
  | _ => exact ok.elim
theorem iop_pip {op : Operator} {r : R2} (h : OpR X (inplaceOp op) r) : PIp X op r := fun pins s σ H x y v u Q I rx ry q => h pins s σ H x y v u Q I rx ry q
theorem p_add : PIp X .Add (lowO X.K (intA (fun _ _ => True) fun i j => i + j)) := iop_pip (o_int (rI_tt iop_add))

/-! ### comparisons -/
def okD (S : Store) (x : AV) : Prop := flatA (derefA S x) = true ∧ SeqAt.shaped (datA S x) = true
def eqG (S : Store) (x y : AV) : Ans := ⟨okD S x ∧ okD S y, .bl (PyData.eqv (datA S x) (datA S y))⟩
def eqA (x y : AV) (S : Store) : Ans := match x with
  | .int i => match y with
    | .int j => ⟨True, .bl (decide (i = j))⟩
    | y => eqG S (.int i) y
  | .str i => match y with
    | .str j => ⟨True, .bl (decide (i = j))⟩
    | y => eqG S (.str i) y
  | x => eqG S x y
def neA (x y : AV) (S : Store) : Ans := match x with
  | .int i => match y with
    | .int j => ⟨True, .bl (!decide (i = j))⟩
    | y => ⟨(eqG S (.int i) y).ok, .bl (!PyData.eqv (datA S (.int i)) (datA S y))⟩
  | .str i => match y with
    | .str j => ⟨True, .bl (!decide (i = j))⟩
    | y => ⟨(eqG S (.str i) y).ok, .bl (!PyData.eqv (datA S (.str i)) (datA S y))⟩
  | x => ⟨(eqG S x y).ok, .bl (!PyData.eqv (datA S x) (datA S y))⟩
theorem dec_intV {i j : Int} : decide (V.int i = V.int j) = decide (i = j) := by simp
theorem dec_strV {i j : Str} : decide (V.str i = V.str j) = decide (i = j) := by simp
theorem o_eqG {x y : V} {dx dy : AV} {S : Store} {H : Hp} {QH : VK} (so : StOk X.K H S) (rx : RelA X.K H S x dx) (ry : RelA X.K H S y dy) (ok : okD S dx ∧ okD S dy)
    (k : QH (.bl (PyData.eqv (datA S dx) (datA S dy))) H) : rEqD X.K x y H QH := ⟨_, _, rx.dpS so ok.1.1, ry.dpS so ok.2.1, ok.1.2, ok.2.2, k⟩
theorem o_neG {x y : V} {dx dy : AV} {S : Store} {H : Hp} {QH : VK} (so : StOk X.K H S) (rx : RelA X.K H S x dx) (ry : RelA X.K H S y dy) (ok : okD S dx ∧ okD S dy)
    (k : QH (.bl (!PyData.eqv (datA S dx) (datA S dy))) H) : rNeD X.K x y H QH := ⟨_, _, rx.dpS so ok.1.1, ry.dpS so ok.2.1, ok.1.2, ok.2.2, k⟩
theorem o_eq (hu : X.A.units + 64 < cLine) : OpR X (compareOp .Eq) (lowO X.K eqA) := opr_weak (OpR.or op_eq (op_eqD hu)) fun x y H QH ⟨dx, dy, S, rx, ry, so, ok, k⟩ => by
  cases dx with
  | int i =>
    cases dy with
    | int j => obtain rfl := rel_intE rx; obtain rfl := rel_intE ry; exact .inl ⟨rfl, by rw [dec_intV]; exact k _ H so .refl (.bl _)⟩
    | _ => exact .inr (o_eqG so rx ry ok (k _ H so .refl (.bl _)))
  | str i =>
    cases dy with
    | str j => obtain rfl := rel_strE rx; obtain rfl := rel_strE ry; exact .inl ⟨rfl, by rw [dec_strV]; exact k _ H so .refl (.bl _)⟩
    | _ => exact .inr (o_eqG so rx ry ok (k _ H so .refl (.bl _)))
  | _ => exact .inr (o_eqG so rx ry ok (k _ H so .refl (.bl _)))
theorem o_ne (hu : X.A.units + 64 < cLine) : OpR X (compareOp .NotEq) (lowO X.K neA) := opr_weak (OpR.or op_ne (op_neD hu)) fun x y H QH ⟨dx, dy, S, rx, ry, so, ok, k⟩ => by
  cases dx with
  | int i =>
    cases dy with
    | int j => obtain rfl := rel_intE rx; obtain rfl := rel_intE ry; exact .inl ⟨rfl, by rw [dec_intV]; exact k _ H so .refl (.bl _)⟩
    | _ => exact .inr (o_neG so rx ry ok (k _ H so .refl (.bl _)))
  | str i =>
    cases dy with
    | str j => obtain rfl := rel_strE rx; obtain rfl := rel_strE ry; exact .inl ⟨rfl, by rw [dec_strV]; exact k _ H so .refl (.bl _)⟩
    | _ => exact .inr (o_neG so rx ry ok (k _ H so .refl (.bl _)))
  | _ => exact .inr (o_neG so rx ry ok (k _ H so .refl (.bl _)))
/-- an order of ints and of texts -/
def ordA (p : Int → Int → Bool) (q : List Nat → List Nat → Bool) (x y : AV) (_ : Store) : Ans := match x with
  | .int i => match y with
    | .int j => ⟨True, .bl (p i j)⟩
    | _ => badA
  | .str i => match y with
    | .str j => ⟨True, .bl (q i.cps.toList j.cps.toList)⟩
    | _ => badA
  | _ => badA
theorem o_ord {f : Value → Value → Sem Value} {p : Int → Int → Bool} {q : List Nat → List Nat → Bool} (h : OpR X f (rI0 fun i j => .bl (p i j))) (h' : OpR X f fun x y H Q => ∃ i j, x = .str i ∧ y = .str j ∧ Q (.bl (q i.cps.toList j.cps.toList)) H) :
    OpR X f (lowO X.K (ordA p q)) := opr_weak (OpR.or h h') fun x y H QH ⟨dx, dy, S, rx, ry, so, ok, k⟩ => by
  cases dx with
  | int i =>
    cases dy with
    | int j => obtain rfl := rel_intE rx; obtain rfl := rel_intE ry; exact .inl ⟨i, j, rfl, rfl, k _ H so .refl (.bl _)⟩
    | _ => exact ok.elim
  | str i =>
    cases dy with
    | str j => obtain rfl := rel_strE rx; obtain rfl := rel_strE ry; exact .inr ⟨i, j, rfl, rfl, k _ H so .refl (.bl _)⟩
    | _ => exact ok.elim
  | _ => exact ok.elim
def ltA := ordA (fun i j => decide (i < j)) fun i j => decide (i < j)
def leA := ordA (fun i j => decide (i ≤ j)) fun i j => !decide (j < i)
def gtA := ordA (fun i j => decide (j < i)) fun i j => decide (j < i)
def geA := ordA (fun i j => decide (j ≤ i)) fun i j => !decide (i < j)
theorem o_lt : OpR X (compareOp .Lt) (lowO X.K ltA) := o_ord op_lt op_lt_str
theorem o_le : OpR X (compareOp .LtE) (lowO X.K leA) := o_ord op_le op_le_str
theorem o_gt : OpR X (compareOp .Gt) (lowO X.K gtA) := o_ord op_gt op_gt_str
theorem o_ge : OpR X (compareOp .GtE) (lowO X.K geA) := o_ord op_ge op_ge_str
/-- is None -/
def nonA : AV → Bool
  | .non => true
  | _ => false
def isA (x y : AV) (_ : Store) : Ans := ⟨y = .non, .bl (nonA x)⟩
def isntA (x y : AV) (_ : Store) : Ans := ⟨y = .non, .bl (!nonA x)⟩
theorem rel_non {K : PySem.W.Frag} {H : Hp} {S : Store} {v : V} {d : AV} (r : RelA K H S v d) : decide (v = .non) = nonA d := by
  cases r <;> rfl
theorem o_is : OpR X (compareOp .Is) (lowO X.K isA) := opr_weak op_isN fun x y H QH ⟨dx, dy, S, rx, ry, so, ok, k⟩ => by
  have ok' : dy = .non := ok
  subst ok'
  exact ⟨rel_nonE ry, by rw [rel_non rx]; exact k _ H so .refl (.bl _)⟩
theorem o_isnt : OpR X (compareOp .IsNot) (lowO X.K isntA) := opr_weak op_notN fun x y H QH ⟨dx, dy, S, rx, ry, so, ok, k⟩ => by
  have ok' : dy = .non := ok
  subst ok'
  exact ⟨rel_nonE ry, by rw [rel_non rx]; exact k _ H so .refl (.bl _)⟩
/-- one sign in a text -/
def inSA (x y : AV) (_ : Store) : Ans := match x with
  | .str i => match y with
    | .str j => ⟨∃ c, i = ⟨#[c]⟩, .bl (decide (i.cps.toList.headD 0 ∈ j.cps.toList))⟩
    | _ => badA
  | _ => badA
theorem o_inS : OpR X (compareOp .In) (lowO X.K inSA) := opr_weak op_in_sign fun x y H QH ⟨dx, dy, S, rx, ry, so, ok, k⟩ => by
  cases dx with
  | str i =>
    cases dy with
    | str j =>
      obtain ⟨c, rfl⟩ := ok
      obtain rfl := rel_strE rx
      obtain rfl := rel_strE ry
      exact ⟨c, j, rfl, rfl, k _ H so .refl (.bl _)⟩
    | _ => exact ok.elim
  | _ => exact ok.elim

/-! ### subscripts -/
def ixL (o : Option (List AV)) (y : AV) : Ans := match o with
  | some xs => match y with
    | .int i => ⟨(atI xs i).isSome = true, (atI xs i).getD .non⟩
    | _ => badA
  | none => badA
def ixA (x y : AV) (S : Store) : Ans := match x with
  | .tup xs => ixL (some xs) y
  | .str z => match y with
    | .int i => ⟨z.length ≤ sizeLine ∧ (atI z.cps.toList i).isSome = true, .str ⟨#[(atI z.cps.toList i).getD 0]⟩⟩
    | _ => badA
  | x => ixL (lstA S x) y
theorem atI_rel {K : PySem.W.Frag} {H : Hp} {S : Store} {vs : List V} {ds : List AV} {i : Int} {d : AV} (r : RelAs K H S vs ds) (h : atI ds i = some d) : ∃ v, atI vs i = some v ∧ RelA K H S v d := by
  unfold atI at h ⊢
  rw [r.length]
  cases z : ixN ds.length i with
  | none => rw [z] at h; cases h
  | some j => rw [z] at h; exact r.get h
theorem ix_lst {x y : V} {dx dy : AV} {S : Store} {H : Hp} {QH : VK} (so : StOk X.K H S) (rx : RelA X.K H S x dx) (ry : RelA X.K H S y dy) (ok : (ixL (lstA S dx) dy).ok)
    (k : ∀ v H', StOk X.K H' S → Step H S H' S → RelA X.K H' S v (ixL (lstA S dx) dy).v → QH v H') : rIxL X.K x y H QH := by
  cases ex : lstA S dx with
  | none => rw [ex] at ok; exact ok.elim
  | some xs =>
    rw [ex] at ok k
    cases dy with
    | int i =>
      obtain rfl := rel_intE ry
      obtain ⟨a, vs, rfl, ha, ra⟩ := rel_lstE so rx ex
      have ok' : (atI xs i).isSome = true := ok
      obtain ⟨d, hd⟩ := Option.isSome_iff_exists.mp ok'
      obtain ⟨v, hv, rv⟩ := atI_rel ra hd
      refine ⟨a, vs, i, v, rfl, rfl, ha, hv, k v H so .refl ?_⟩
      show RelA X.K H S v ((atI xs i).getD .non)
      rw [hd]
      exact rv
    | _ => exact ok.elim
theorem o_ix : IxR X (lowO X.K ixA) := ixr_weak ix_seq fun x y H QH ⟨dx, dy, S, rx, ry, so, ok, k⟩ => by
  cases dx with
  | tup xs =>
    cases dy with
    | int i =>
      obtain rfl := rel_intE ry
      obtain ⟨a, vs, rfl, ha, ra⟩ := rel_tupE rx
      have ok' : (atI xs i).isSome = true := ok
      obtain ⟨d, hd⟩ := Option.isSome_iff_exists.mp ok'
      obtain ⟨v, hv, rv⟩ := atI_rel ra hd
      refine .inr (.inl ⟨a, vs, i, v, rfl, rfl, ha, hv, k v H so .refl ?_⟩)
      show RelA X.K H S v ((atI xs i).getD .non)
      rw [hd]
      exact rv
    | _ => exact ok.elim
  | str z =>
    cases dy with
    | int i =>
      obtain rfl := rel_intE ry
      obtain rfl := rel_strE rx
      obtain ⟨hz, hs⟩ := ok
      obtain ⟨c, hc⟩ := Option.isSome_iff_exists.mp hs
      refine .inr (.inr ⟨z, i, c, rfl, rfl, hz, hc, k _ H so .refl ?_⟩)
      show RelA X.K H S (.str ⟨#[c]⟩) (.str ⟨#[(atI z.cps.toList i).getD 0]⟩)
      rw [hc]
      exact .str _
    | _ => exact ok.elim
  | _ => exact .inl (ix_lst so rx ry ok k)
end
end L3

set_option Elab.async false
set_option linter.all false
set_option maxRecDepth 100000
set_option maxHeartbeats 2000000
set_option autoImplicit false
/-! L3E: calls of builtins, slices, methods, comprehensions over L3. -/
namespace L3
open PySem L2
variable {bb : Birth}

section
variable {X : Cx} {e a b c : Expr} {es : List Expr} {ta tb tc : AE} {t : AA} {pos p : Pos}
theorem e_cb {x : Str} {id : String} {ar : List AV → Store → Ans} (h : CallR X (.builtin id) (lowC X.K ar)) (hm : X.mg x = none) (hb : bootBuiltins x = some (.builtin id)) (ha : PA X (e :: es) (lowA (kx X bb) t)) (hg : Gl X x := by rfl) (hn : x ≠ ("__name__" : Str) := by decide)
    (hd : (x == ("__debug__" : Str)) = false := by decide) (he : starEach (e :: es) X.env = (false, eval e X.env) :: starEach es X.env := by rfl) (hpl : (backTo pos (starEach es X.env)).any (·.1) = false := by rfl) :
    PE X (.Call (.Name x p) (e :: es) [] pos) (low (kx X bb) (aCB ar t)) := (pe_callB h hg hm hb ha hn hd he hpl).weak low_cb
theorem e_ct {x : Str} {T : String} {ar : List AV → Store → Ans} (h : CallR X (.type T) (lowC X.K ar)) (hm : X.mg x = none) (hb : bootBuiltins x = some (.type T)) (ha : PA X (e :: es) (lowA (kx X bb) t)) (hg : Gl X x := by rfl) (hn : x ≠ ("__name__" : Str) := by decide)
    (hd : (x == ("__debug__" : Str)) = false := by decide) (he : starEach (e :: es) X.env = (false, eval e X.env) :: starEach es X.env := by rfl) (hpl : (backTo pos (starEach es X.env)).any (·.1) = false := by rfl) :
    PE X (.Call (.Name x p) (e :: es) [] pos) (low (kx X bb) (aCB ar t)) := (pe_callTy h hg hm hb ha hn hd he hpl).weak low_cb

/-! ### one argument -/
def one1 (f : AV → Store → Ans) (ds : List AV) (S : Store) : Ans := match ds with
  | [x] => f x S
  | _ => badA
def one2 (f : AV → AV → Store → Ans) (ds : List AV) (S : Store) : Ans := match ds with
  | [x, y] => f x y S
  | _ => badA
theorem rel_one {K : PySem.W.Frag} {H : Hp} {S : Store} {vs : List V} {x : AV} (r : RelAs K H S vs [x]) : ∃ v, vs = [v] ∧ RelA K H S v x := by
  cases r with
  | cons r rr => cases rr; exact ⟨_, rfl, r⟩
theorem rel_two {K : PySem.W.Frag} {H : Hp} {S : Store} {vs : List V} {x y : AV} (r : RelAs K H S vs [x, y]) : ∃ v w, vs = [v, w] ∧ RelA K H S v x ∧ RelA K H S w y := by
  cases r with
  | cons r rr => cases rr with
    | cons r' rr => cases rr; exact ⟨_, _, rfl, r, r'⟩
theorem c_one {f : AV → Store → Ans} {g : Value} {r : List V → Hp → VK → Prop} (h : CallR X g r) (w : ∀ x d S H QH, RelA X.K H S x d → StOk X.K H S → (f d S).ok → (∀ v H', StOk X.K H' S → Step H S H' S → RelA X.K H' S v (f d S).v → QH v H') → r [x] H QH) : CallR X g (lowC X.K (one1 f)) :=
  callr_weak h fun vs H QH ⟨ds, S, rs, so, ok, k⟩ => by
    match ds, rs, ok, k with
    | [], _, ok, _ => exact ok.elim
    | [d], rs, ok, k => obtain ⟨x, rfl, r⟩ := rel_one rs; exact w x d S H QH r so ok k
    | _ :: _ :: _, _, ok, _ => exact ok.elim
theorem c_two {f : AV → AV → Store → Ans} {g : Value} {r : List V → Hp → VK → Prop} (h : CallR X g r) (w : ∀ x y d e S H QH, RelA X.K H S x d → RelA X.K H S y e → StOk X.K H S → (f d e S).ok → (∀ v H', StOk X.K H' S → Step H S H' S → RelA X.K H' S v (f d e S).v → QH v H') → r [x, y] H QH) : CallR X g (lowC X.K (one2 f)) :=
  callr_weak h fun vs H QH ⟨ds, S, rs, so, ok, k⟩ => by
    match ds, rs, ok, k with
    | [], _, ok, _ => exact ok.elim
    | [_], _, ok, _ => exact ok.elim
    | [d, e], rs, ok, k => obtain ⟨x, y, rfl, r, r'⟩ := rel_two rs; exact w x y d e S H QH r r' so ok k
    | _ :: _ :: _ :: _, _, ok, _ => exact ok.elim
/-- len -/
def lenA (x : AV) (S : Store) : Ans := match x with
  | .str z => ⟨z.length ≤ sizeLine, .int z.length⟩
  | .tup xs => ⟨True, .int xs.length⟩
  | x => match lstA S x with
    | some xs => ⟨True, .int xs.length⟩
    | none => badA
theorem len_lst {K : PySem.W.Frag} {x : V} {d : AV} {S : Store} {H : Hp} (so : StOk K H S) (r : RelA K H S x d) {xs : List AV} (e : lstA S d = some xs) : LenV K x H xs.length := by
  obtain ⟨a, vs, rfl, ha, ra⟩ := rel_lstE so r e
  exact .inl ⟨vs, ha, ra.length.symm⟩
theorem c_len : CallR X (.builtin "len") (lowC X.K (one1 lenA)) := c_one call_len fun x d S H QH r so ok k => by
  have gen : (∀ xs, lstA S d = some xs → (match lstA S d with | some xs => (⟨True, .int xs.length⟩ : Ans) | none => badA) = lenA d S) → (match lstA S d with | some xs => (⟨True, .int xs.length⟩ : Ans) | none => badA).ok → ∃ x1 n, [x] = [x1] ∧ LenV X.K x1 H n ∧ QH (.int n) H := fun h1 h2 => by
    cases e : lstA S d with
    | none => rw [e] at h2; exact h2.elim
    | some xs =>
      have q := h1 xs e
      rw [e] at q
      refine ⟨x, xs.length, rfl, len_lst so r e, k _ H so .refl ?_⟩
      rw [← q]
      exact .int _
  cases d with
  | str z => obtain rfl := rel_strE r; exact ⟨_, _, rfl, ⟨ok, rfl⟩, k _ H so .refl (.int _)⟩
  | tup xs =>
    obtain ⟨a, vs, rfl, ha, ra⟩ := rel_tupE r
    exact ⟨_, _, rfl, .inr ⟨vs, ha, ra.length.symm⟩, k _ H so .refl (.int _)⟩
  | lst xs => exact gen (fun _ _ => rfl) ok
  | rol xs => exact gen (fun _ _ => rfl) ok
  | ref l => exact gen (fun _ _ => rfl) ok
  | _ => exact ok.elim
/-- abs, int, max, min -/
def absA (x : AV) (_ : Store) : Ans := match x with
  | .int i => ⟨True, .int (if i < 0 then -i else i)⟩
  | _ => badA
theorem c_abs : CallR X (.builtin "abs") (lowC X.K (one1 absA)) := c_one call_abs fun x d S H QH r so ok k => by
  cases d with
  | int i => obtain rfl := rel_intE r; exact ⟨i, rfl, k _ H so .refl (.int _)⟩
  | _ => exact ok.elim
def toIntA (x : AV) (_ : Store) : Ans := match x with
  | .int i => ⟨True, .int i⟩
  | .bl b => ⟨True, .int (if b then 1 else 0)⟩
  | _ => badA
theorem c_int : CallR X (.type "int") (lowC X.K (one1 toIntA)) := c_one call_int1 fun x d S H QH r so ok k => by
  cases d with
  | int i => obtain rfl := rel_intE r; exact .inl ⟨i, rfl, k _ H so .refl (.int _)⟩
  | bl b => obtain rfl := rel_blE r; exact .inr ⟨b, rfl, k _ H so .refl (.int _)⟩
  | _ => exact ok.elim
def int2A (g : Int → Int → Int) (x y : AV) (_ : Store) : Ans := match x with
  | .int i => match y with
    | .int j => ⟨True, .int (g i j)⟩
    | _ => badA
  | _ => badA
theorem c_int2 {g : Int → Int → Int} {f : Value} (h : CallR X f fun xs H Q => ∃ i j, xs = [.int i, .int j] ∧ Q (.int (g i j)) H) : CallR X f (lowC X.K (one2 (int2A g))) := c_two h fun x y d e S H QH r r' so ok k => by
  cases d with
  | int i =>
    cases e with
    | int j => obtain rfl := rel_intE r; obtain rfl := rel_intE r'; exact ⟨i, j, rfl, k _ H so .refl (.int _)⟩
    | _ => exact ok.elim
  | _ => exact ok.elim
theorem c_max2 (hc : X.calm = true) : CallR X (.builtin "max") (lowC X.K (one2 (int2A fun i j => if j > i then j else i))) := c_int2 (call_max2 hc)
theorem c_min2 (hc : X.calm = true) : CallR X (.builtin "min") (lowC X.K (one2 (int2A fun i j => if j < i then j else i))) := c_int2 (call_min2 hc)
/-- tuple(x), list(x) of a list, a tuple -/
def tupleA (x : AV) (S : Store) : Ans := match x with
  | .tup xs => ⟨True, .tup xs⟩
  | x => match lstA S x with
    | some xs => ⟨True, .tup xs⟩
    | none => badA
theorem c_tuple : CallR X (.type "tuple") (lowC X.K (one1 tupleA)) := c_one call_tuple_of fun x d S H QH r so ok k => by
  have gen : (∀ xs, lstA S d = some xs → (match lstA S d with | some xs => (⟨True, .tup xs⟩ : Ans) | none => badA) = tupleA d S) → (match lstA S d with | some xs => (⟨True, .tup xs⟩ : Ans) | none => badA).ok →
      ∃ p ys, [x] = [V.ref p] ∧ ((SqL X.K H p ys ∧ ∀ l, H l = none → QH (.ref l) (upd H l (.tup ys))) ∨ (SqT X.K H p ys ∧ QH (.ref p) H)) := fun h1 h2 => by
    cases e : lstA S d with
    | none => rw [e] at h2; exact h2.elim
    | some xs =>
      have q := h1 xs e
      rw [e] at q
      obtain ⟨a, vs, rfl, ha, ra⟩ := rel_lstE so r e
      refine ⟨a, vs, rfl, .inl ⟨ha, fun l hl => k _ _ (stok_new so hl) (step_new so hl) ?_⟩⟩
      rw [← q]
      exact rel_tup so hl ra
  cases d with
  | tup xs =>
    obtain ⟨a, vs, rfl, ha, ra⟩ := rel_tupE r
    exact ⟨a, vs, rfl, .inr ⟨ha, k _ H so .refl r⟩⟩
  | lst xs => exact gen (fun _ _ => rfl) ok
  | rol xs => exact gen (fun _ _ => rfl) ok
  | ref l => exact gen (fun _ _ => rfl) ok
  | _ => exact ok.elim
def seqA (S : Store) : AV → Option (List AV)
  | .tup xs => some xs
  | .lst xs => some xs
  | .rol xs => some xs
  | .ref l => lstA S (.ref l)
  | _ => none
theorem rel_seqE {K : PySem.W.Frag} {H : Hp} {S : Store} {v : V} {d : AV} {ds : List AV} (so : StOk K H S) (r : RelA K H S v d) (e : seqA S d = some ds) : ∃ a vs, v = .ref a ∧ (SqL K H a vs ∨ SqT K H a vs) ∧ RelAs K H S vs ds := by
  cases d with
  | tup xs =>
    cases e
    obtain ⟨a, vs, rfl, ha, ra⟩ := rel_tupE r
    exact ⟨a, vs, rfl, .inr ha, ra⟩
  | lst xs => obtain ⟨a, vs, rfl, ha, ra⟩ := rel_lstE so r (show lstA S (.lst xs) = some ds from e); exact ⟨a, vs, rfl, .inl ha, ra⟩
  | rol xs => obtain ⟨a, vs, rfl, ha, ra⟩ := rel_lstE so r (show lstA S (.rol xs) = some ds from e); exact ⟨a, vs, rfl, .inl ha, ra⟩
  | ref l => obtain ⟨a, vs, rfl, ha, ra⟩ := rel_lstE so r (show lstA S (.ref l) = some ds from e); exact ⟨a, vs, rfl, .inl ha, ra⟩
  | non => cases e
  | bl _ => cases e
  | int _ => cases e
  | str _ => cases e
  | ty _ => cases e
def listA (x : AV) (S : Store) : Ans := match seqA S x with
  | some xs => ⟨True, .lst xs⟩
  | none => badA
theorem c_list : CallR X (.type "list") (lowC X.K (one1 listA)) := c_one call_list_of fun x d S H QH r so ok k => by
  unfold listA at ok k
  cases e : seqA S d with
  | none => rw [e] at ok; exact ok.elim
  | some xs =>
    rw [e] at k
    obtain ⟨a, vs, rfl, ha, ra⟩ := rel_seqE so r e
    exact ⟨a, vs, rfl, ha, fun l hl => k _ _ (stok_new so hl) (step_new so hl) (rel_lst so hl ra)⟩
/-- all, any of a list of truths; sum of a list of ints -/
def isBlA : AV → Bool
  | .bl _ => true
  | _ => false
def blOf : AV → Bool
  | .bl b => b
  | _ => false
def isIntA : AV → Bool
  | .int _ => true
  | _ => false
def intOf : AV → Int
  | .int i => i
  | _ => 0
theorem rel_bls {K : PySem.W.Frag} {H : Hp} {S : Store} : ∀ {vs : List V} {ds : List AV}, RelAs K H S vs ds → ds.all isBlA = true → vs = (ds.map blOf).map V.bl
  | _, _, .nil, _ => rfl
  | _, _, .cons (d := d) r t, e => by
    rw [List.all_cons, Bool.and_eq_true_iff] at e
    cases d with
    | bl b => rw [rel_blE r, rel_bls t e.2]; rfl
    | _ => cases e.1
theorem rel_intsE {K : PySem.W.Frag} {H : Hp} {S : Store} : ∀ {vs : List V} {ds : List AV}, RelAs K H S vs ds → ds.all isIntA = true → vs = (ds.map intOf).map V.int
  | _, _, .nil, _ => rfl
  | _, _, .cons (d := d) r t, e => by
    rw [List.all_cons, Bool.and_eq_true_iff] at e
    cases d with
    | int b => rw [rel_intE r, rel_intsE t e.2]; rfl
    | _ => cases e.1
def allA (x : AV) (S : Store) : Ans := match lstA S x with
  | some xs => ⟨xs.all isBlA = true, .bl (xs.all blOf)⟩
  | none => badA
def anyA (x : AV) (S : Store) : Ans := match lstA S x with
  | some xs => ⟨xs.all isBlA = true, .bl (xs.any blOf)⟩
  | none => badA
def sumA (x : AV) (S : Store) : Ans := match lstA S x with
  | some xs => ⟨xs.all isIntA = true, .int (xs.map intOf).sum⟩
  | none => badA
theorem c_all (hc : X.calm = true) : CallR X (.builtin "all") (lowC X.K (one1 allA)) := c_one (cr_all hc) fun x d S H QH r so ok k => by
  unfold allA at ok k
  cases e : lstA S d with
  | none => rw [e] at ok; exact ok.elim
  | some xs =>
    rw [e] at ok k
    obtain ⟨a, vs, rfl, ha, ra⟩ := rel_lstE so r e
    have z := rel_bls ra ok
    subst z
    refine ⟨a, xs.map blOf, rfl, ha, ?_⟩
    rw [List.all_map]
    exact k _ H so .refl (.bl _)
theorem c_any (hc : X.calm = true) : CallR X (.builtin "any") (lowC X.K (one1 anyA)) := c_one (cr_any hc) fun x d S H QH r so ok k => by
  unfold anyA at ok k
  cases e : lstA S d with
  | none => rw [e] at ok; exact ok.elim
  | some xs =>
    rw [e] at ok k
    obtain ⟨a, vs, rfl, ha, ra⟩ := rel_lstE so r e
    have z := rel_bls ra ok
    subst z
    refine ⟨a, xs.map blOf, rfl, ha, ?_⟩
    rw [List.any_map]
    exact k _ H so .refl (.bl _)
theorem c_sum (hc : X.calm = true) : CallR X (.builtin "sum") (lowC X.K (one1 sumA)) := c_one (cr_sum hc) fun x d S H QH r so ok k => by
  unfold sumA at ok k
  cases e : lstA S d with
  | none => rw [e] at ok; exact ok.elim
  | some xs =>
    rw [e] at ok k
    obtain ⟨a, vs, rfl, ha, ra⟩ := rel_lstE so r e
    have z := rel_intsE ra ok
    subst z
    exact ⟨a, xs.map intOf, rfl, ha, k _ H so .refl (.int _)⟩
/-- isinstance against a built-in class -/
def tyNm (S : Store) : AV → String
  | .non => "NoneType"
  | .bl _ => "bool"
  | .int _ => "int"
  | .str _ => "str"
  | .tup _ => "tuple"
  | .lst _ => "list"
  | .rol _ => "list"
  | .ref l => match S l with
    | some (.lst _) => "list"
    | some (.dK _) => "dict"
    | _ => ""
  | .ty _ => ""
def isiB (a b : String) : Bool := a == b || (a == "bool" && b == "int")
def isiA (x y : AV) (S : Store) : Ans := match y with
  | .ty n => ⟨(["NoneType", "bool", "int", "str", "tuple", "list", "dict"].contains (tyNm S x) && ["bool", "int", "str", "tuple", "list", "dict"].contains n) = true, .bl (isiB (tyNm S x) n)⟩
  | _ => badA
theorem kit_isi : ∀ a ∈ ["NoneType", "bool", "int", "str", "tuple", "list", "dict"], ∀ b ∈ ["bool", "int", "str", "tuple", "list", "dict"], kitB a b = some (isiB a b) := by decide +kernel
theorem tyX_of {K : PySem.W.Frag} {H : Hp} {S : Store} {v : V} {d : AV} (so : StOk K H S) (r : RelA K H S v d) (e : ["NoneType", "bool", "int", "str", "tuple", "list", "dict"].contains (tyNm S d) = true) : TyX K H v (.type (tyNm S d)) := by
  cases r with
  | non => exact .base .non
  | bl b => exact .base (.bl b)
  | int i => exact .base (.int i)
  | str x => exact .base (.str x)
  | ty n => exact absurd (show ["NoneType", "bool", "int", "str", "tuple", "list", "dict"].contains "" = true from e) (by decide)
  | tup h n q =>
    rcases h with h | ⟨o, h⟩
    · exact .base (.tup h)
    · exact .fTuple h
  | tupK h q => obtain ⟨o, its, n, hk, hc, _⟩ := h; exact .kTuple hk hc
  | lst h n q => exact .base (.lst h)
  | rol h n q =>
    rcases h with h | ⟨o, h⟩
    · exact .base (.lst h)
    · exact .base (.frz h)
  | rolK h q => obtain ⟨o, its, n, hk, hc, _⟩ := h; exact .kList hk hc
  | ref l =>
    cases z : S l with
    | none => simp only [tyNm, z] at e; exact absurd e (by decide)
    | some o =>
      cases o with
      | lst xs => obtain ⟨vs, h, _⟩ := so l _ z; simp only [tyNm, z]; exact .base (.lst h)
      | dK xs => obtain ⟨vs, h, _⟩ := so l _ z; simp only [tyNm, z]; exact .base (.dK h)
      | _ => simp only [tyNm, z] at e; exact absurd e (by decide)
theorem c_isi : CallR X (.builtin "isinstance") (lowC X.K (one2 isiA)) := c_two call_isi fun x y d f S H QH r r' so ok k => by
  cases f with
  | ty n =>
    obtain rfl := rel_tyE r'
    have ok' : (["NoneType", "bool", "int", "str", "tuple", "list", "dict"].contains (tyNm S d) && ["bool", "int", "str", "tuple", "list", "dict"].contains n) = true := ok
    rw [Bool.and_eq_true_iff] at ok'
    have h1 : tyNm S d ∈ ["NoneType", "bool", "int", "str", "tuple", "list", "dict"] := by simpa using ok'.1
    have h2 : n ∈ ["bool", "int", "str", "tuple", "list", "dict"] := by simpa using ok'.2
    exact ⟨x, .ty n, _, _, _, rfl, .ty n, tyX_of so r ok'.1, kit_ty (kit_isi _ h1 _ h2), k _ H so .refl (.bl _)⟩
  | _ => exact ok.elim
/-- repr -/
def reprA (x : AV) (S : Store) : Ans := ⟨flatA (derefA S x) = true ∧ (datA S x).showable = true ∧ (datA S x).hasDict = false ∧ (datA S x).depth ≤ 60 ∧ (datA S x).shown.length ≤ sizeLine, .str (datA S x).shown⟩
theorem c_repr (gd : X.A.guards = some []) (hu : X.A.units + 64 < cLine) : CallR X (.builtin "repr") (lowC X.K (one1 reprA)) := by
  intro pins s σ H vs us QH I rv h
  obtain ⟨ds, S, rs, so, ok, k⟩ := h
  match ds, rs, ok, k with
  | [], _, ok, _ => exact ok.elim
  | _ :: _ :: _, _, ok, _ => exact ok.elim
  | [d], rs, ok, k =>
    obtain ⟨x, rfl, r⟩ := rel_one rs
    obtain ⟨u, rfl, ru⟩ := rv.one
    obtain ⟨fl, sh, nd, dp, sz⟩ := ok
    have D := r.dpS so fl
    obtain ⟨as, rd⟩ := Dp.reads I _ x u D ru
    have fin : ∀ h' tk tk', (∀ b o, s.heap.get? b = some o → h'.get? b = some o) → EP X pins σ QH (.str (datA S d).shown tk) { s with heap := h', toks := tk' } := fun h' tk tk' hk =>
      ⟨.str _, H, I.kept hk, ⟨tk, rfl⟩, k _ H so .refl (.str _)⟩
    have keep0 : ∀ b o, s.heap.get? b = some o → s.heap.get? b = some o := fun _ _ q => q
    have sd : (datA S d).showable = true := sh
    cases x with
    | ref a =>
      obtain rfl : u = .ref a := ru
      exact repr_of_reads' rd sh (fun z => by rw [nd] at z; cases z) gd (by omega) keep0 (fun h' tk tk' hk => fin h' tk tk' hk) sz
    | non =>
      obtain rfl : u = .none := ru
      generalize datA S d = dd at D rd sz sh fin
      cases D
      exact PySem.P.repr_of_none (fin s.heap _ _ keep0)
    | bl b =>
      obtain rfl : u = .bool b := ru
      generalize datA S d = dd at D rd sz sh fin
      cases D
      exact PySem.P.repr_of_bool (fin s.heap _ _ keep0)
    | int i =>
      obtain ⟨t, rfl⟩ : ∃ t, u = .int i t := ru
      generalize datA S d = dd at D rd sz sh fin
      cases D
      exact PySem.P.repr_of_int (of_decide_eq_true sh) (fin s.heap _ _ keep0)
    | str z =>
      obtain ⟨t, rfl⟩ : ∃ t, u = .str z t := ru
      generalize datA S d = dd at D rd sz sh fin
      cases D
      exact PySem.P.repr_of_str (fin s.heap _ _ keep0) sz
    | byt _ => generalize datA S d = dd at D; cases D
    | flt _ => generalize datA S d = dd at D; cases D
    | ty _ => generalize datA S d = dd at D; cases D
/-- list(range(..)) -/
def aRg1 (ta : AE) : ASt → Store → (Int → Int → Store → Prop) → Prop := fun τ S Q => ta τ S fun d S1 => ∃ n, d = .int n ∧ Q 0 n S1
def aLstRg (t : ASt → Store → (Int → Int → Store → Prop) → Prop) : AE := fun τ S Q => t τ S fun a b S1 => RgOk a b ∧ Q (.lst (rngA a (b - a).toNat)) S1
theorem rel_rng {K : PySem.W.Frag} {H : Hp} {S : Store} (a : Int) : ∀ (l : List Nat), RelAs K H S (l.map fun i => V.int (a + (i : Nat))) (l.map fun i => AV.int (a + (i : Nat)))
  | [] => .nil
  | i :: l => .cons (.int _) (rel_rng a l)
theorem e_lstRg1 (hc : X.calm = true) (hm : X.mg "list" = none) (hm2 : X.mg "range" = none) (ha : PE X a (low (kx X bb) ta)) {p1 p2 pos2 : Pos} (hg : Gl X "list" := by rfl) (hg2 : Gl X "range" := by rfl)
    (na : starEach [a] X.env = [(false, eval a X.env)] := by rfl) (nb : starEach [.Call (.Name "range" p2) [a] [] pos2] X.env = (false, eval (.Call (.Name "range" p2) [a] [] pos2) X.env) :: starEach [] X.env := by rfl) :
    PE X (.Call (.Name "list" p1) [.Call (.Name "range" p2) [a] [] pos2] [] pos) (low (kx X bb) (aLstRg (aRg1 ta))) :=
  (pe_listRg hc hg hm (prg_1 hg2 hm2 ha na) nb).weak fun σ H QH ⟨τ, S, Q, R, so, q, k⟩ => ⟨τ, S, _, R, so, q, fun v H1 d S1 so1 st1 r1 ⟨n, e, ok, q1⟩ => by
    subst e
    exact ⟨n, rel_intE r1, ok, fun l hl => k _ _ _ S1 (stok_new so1 hl) (st1.trans (step_new so1 hl)) (rel_lst so1 hl (rel_rng 0 (List.range (n - 0).toNat))) q1⟩⟩

/-! ### slices -/
abbrev AO1 := ASt → Store → (Option Int → Store → Prop) → Prop
def aPart (ta : AE) : AO1 := fun τ S Q => ta τ S fun d S1 => ∃ i, d = .int i ∧ Q (some i) S1
def aNoPart : AO1 := fun _ S Q => Q none S
def lowP (kb : KB) (ao : AO1) : TO := fun σ H QH => ∃ τ S Q, Rp kb H S σ τ ∧ StOk kb.K H S ∧ ao τ S Q ∧ ∀ o H' S', StOk kb.K H' S' → Step H S H' S' → Q o S' → QH o H'
theorem po_weak {oe : Option Expr} {t t' : TO} (h : PO X oe t) (w : ∀ σ H Q, t' σ H Q → t σ H Q) : PO X oe t' := ⟨fun pins s σ H Q I q => h.run pins s σ H Q I (w σ H Q q)⟩
theorem o_some (h : PE X e (low (kx X bb) ta)) : PO X (some e) (lowP (kx X bb) (aPart ta)) := po_weak (po_some h) fun σ H QH ⟨τ, S, Q, R, so, q, k⟩ => ⟨τ, S, _, R, so, q, fun v H1 d S1 so1 st1 r1 ⟨i, e, q1⟩ => by
  subst e
  exact ⟨i, rel_intE r1, k (some i) H1 S1 so1 st1 q1⟩⟩
theorem o_none : PO X none (lowP (kx X bb) aNoPart) := po_weak po_none fun σ H QH ⟨τ, S, Q, R, so, q, k⟩ => k none H S so .refl q
def cutL (xs : List AV) (lo hi : Option Int) : List AV := (xs.drop (HT.sIx xs.length 0 lo)).take (HT.sIx xs.length xs.length hi - HT.sIx xs.length 0 lo)
def cutAns (x : AV) (lo hi : Option Int) (S : Store) : Ans := match x with
  | .tup xs => ⟨True, .tup (cutL xs lo hi)⟩
  | .str z => ⟨z.length ≤ sizeLine, .str (cutS z lo hi)⟩
  | x => match lstA S x with
    | some xs => ⟨True, .lst (cutL xs lo hi)⟩
    | none => badA
def aSl (ta : AE) (tl th : AO1) : AE := fun τ S Q => ta τ S fun x S1 => tl τ S1 fun l S2 => th τ S2 fun u S3 => (cutAns x l u S3).ok ∧ Q (cutAns x l u S3).v S3
theorem cut_rel {K : PySem.W.Frag} {H : Hp} {S : Store} {vs : List V} {ds : List AV} (r : RelAs K H S vs ds) (lo hi : Option Int) : RelAs K H S (cutV vs lo hi) (cutL ds lo hi) := by
  unfold cutV cutL
  rw [r.length]
  exact (r.drop _).take _
theorem e_sl {lo hi : Option Expr} {tl th : AO1} {p2 : Pos} (he : PE X e (low (kx X bb) ta)) (hl : PO X lo (lowP (kx X bb) tl)) (hu : PO X hi (lowP (kx X bb) th)) : PE X (.Subscript e (.Slice lo hi none p2) pos) (low (kx X bb) (aSl ta tl th)) :=
  (pe_slice (SlR.or sl_list (SlR.or sl_tupA sl_str)) he hl hu).weak fun σ H QH ⟨τ, S, Q, R, so, q, k⟩ => ⟨τ, S, _, R, so, q, fun v H1 d S1 so1 st1 r1 q1 => ⟨τ, S1, _, R.step st1, so1, q1, fun l H2 S2 so2 st2 q2 =>
    ⟨τ, S2, _, (R.step st1).step st2, so2, q2, fun u H3 S3 so3 st3 ⟨ok, q3⟩ => by
      have r3 := (r1.step st2).step st3
      have st := (st1.trans st2).trans st3
      have gen : (∀ xs, lstA S3 d = some xs → cutAns d l u S3 = (match lstA S3 d with | some xs => (⟨True, .lst (cutL xs l u)⟩ : Ans) | none => badA)) → (match lstA S3 d with | some xs => (⟨True, .lst (cutL xs l u)⟩ : Ans) | none => badA).ok → rSlL X.K v l u H3 QH := fun h1 h2 => by
        cases e : lstA S3 d with
        | none => rw [e] at h2; exact h2.elim
        | some xs =>
          have z := h1 xs e
          rw [e] at z
          rw [z] at q3
          obtain ⟨a, vs, rfl, ha, ra⟩ := rel_lstE so3 r3 e
          exact ⟨a, vs, rfl, ha, fun p hp => k _ _ _ S3 (stok_new so3 hp) (st.trans (step_new so3 hp)) (rel_lst so3 hp (cut_rel ra l u)) q3⟩
      cases d with
      | tup xs =>
        obtain ⟨a, vs, rfl, ha, ra⟩ := rel_tupE r3
        refine .inr (.inl ⟨a, vs, rfl, ha, fun hw => ?_, fun _ p hp => k _ _ _ S3 (stok_new so3 hp) (st.trans (step_new so3 hp)) (rel_tup so3 hp (cut_rel ra l u)) q3⟩)
        refine k _ H3 _ S3 so3 st ?_ q3
        have ew : cutL xs l u = xs := by
          unfold cutL
          rw [ra.length] at hw
          rw [hw.1, hw.2]
          simp
        show RelA X.K H3 S3 (.ref a) (.tup (cutL xs l u))
        rw [ew]
        exact r3
      | str z =>
        obtain rfl := rel_strE r3
        exact .inr (.inr ⟨z, rfl, ok, k _ H3 _ S3 so3 st (.str _) q3⟩)
      | lst xs => exact .inl (gen (fun _ _ => rfl) ok)
      | rol xs => exact .inl (gen (fun _ _ => rfl) ok)
      | ref l' => exact .inl (gen (fun _ _ => rfl) ok)
      | _ => exact ok.elim⟩⟩⟩
/-- xs[::-1] of a list -/
def aRevL (ta : AE) : AE := fun τ S Q => ta τ S fun d S1 => ∃ xs, lstA S1 d = some xs ∧ Q (.lst xs.reverse) S1
theorem e_revL {k : Nat} {p1 p2 p3 : Pos} (he : PE X e (low (kx X bb) ta)) : PE X (.Subscript e (.Slice none none (some (.UnaryOp .USub (.Constant (.int 1) k p1) p2)) p3) pos) (low (kx X bb) (aRevL ta)) :=
  (pe_revL he).weak fun σ H QH ⟨τ, S, Q, R, so, q, k⟩ => ⟨τ, S, _, R, so, q, fun v H1 d S1 so1 st1 r1 ⟨xs, e, q1⟩ => by
    obtain ⟨a, vs, rfl, ha, ra⟩ := rel_lstE so1 r1 e
    exact ⟨a, vs, rfl, ha, fun p hp => k _ _ _ S1 (stok_new so1 hp) (st1.trans (step_new so1 hp)) (rel_lst so1 hp ra.reverse) q1⟩⟩

/-! ### methods of lists and texts -/
def aM (am : AV → List AV → Store → AK → Prop) (to : AE) (t : AA) : AE := fun τ S Q => to τ S fun x S1 => t τ S1 fun ds S2 => am x ds S2 Q
def aM0 (am : AV → List AV → Store → AK → Prop) (to : AE) : AE := fun τ S Q => to τ S fun x S1 => am x [] S1 Q
/-- the receiver's type is known by the value alone -/
def tyA (T : String) (S : Store) : AV → Prop
  | .str _ => T = "str"
  | .int _ => T = "int"
  | .lst _ => T = "list"
  | .rol _ => T = "list"
  | .ref l => match S l with
    | some (.lst _) => T = "list"
    | some (.dK _) => T = "dict"
    | _ => False
  | _ => False
theorem tyV_of {K : PySem.W.Frag} {H : Hp} {S : Store} {T : String} {v : V} {d : AV} (so : StOk K H S) (r : RelA K H S v d) (h : tyA T S d) : tyV K T v H := by
  cases r with
  | str x => exact h
  | int x => exact h
  | lst h' n q => exact .inl ⟨h, _, .inl (.inl h')⟩
  | rol h' n q => exact .inl ⟨h, _, .inl h'⟩
  | rolK h' q => exact .inl ⟨h, _, .inr h'⟩
  | ref l =>
    cases z : S l with
    | none => simp only [tyA, z] at h
    | some o =>
      cases o with
      | lst xs => simp only [tyA, z] at h; obtain ⟨vs, hh, _⟩ := so l _ z; exact .inl ⟨h, _, .inl (.inl hh)⟩
      | dK xs => simp only [tyA, z] at h; obtain ⟨vs, hh, _⟩ := so l _ z; exact .inr (.inr (.inl ⟨h, .inl ⟨_, hh⟩⟩))
      | _ => simp only [tyA, z] at h
  | non => exact h.elim
  | bl _ => exact h.elim
  | ty _ => exact h.elim
  | tup _ _ _ => exact h.elim
  | tupK _ _ => exact h.elim
theorem e_bm {name : Str} {apos : Pos} {T id : String} {am : AV → List AV → Store → AK → Prop} {to : AE} {o : Expr} (pa : PlainAttrs T) (slot : Slot T name id) (hty : typeOf (.builtin id) = pure (.type "method_descriptor")) (hm : MtR X id (lowM X.K am)) (ho : PE X o (low (kx X bb) to)) (ha : PA X (e :: es) (lowA (kx X bb) t))
    (hbase : attributeBase o name X.env (eval o X.env) = eval o X.env := by rfl)
    (h2 : ((((backTo pos (starEach (e :: es) X.env)).all fun x => !x.1) && (backToKw pos (keywordEach [] X.env)).all fun x => x.1.isSome) && decide ((e :: es).length + ([] : List Keyword).length + (if ([] : List Keyword).isEmpty = true then 0 else 1) < 30)) = true := by rfl)
    (h3 : (apos.endLine == pos.line) = true := by decide +kernel) (h4 : starEach (e :: es) X.env = (false, eval e X.env) :: starEach es X.env := by rfl) (h5 : (backTo pos (starEach es X.env)).any (·.1) = false := by rfl) :
    PE X (.Call (.Attribute o name apos) (e :: es) [] pos) (low (kx X bb) (fun τ S Q => to τ S fun x S1 => tyA T S1 x ∧ t τ S1 fun ds S2 => am x ds S2 Q)) :=
  (pe_bm pa slot hty hm ho ha hbase h2 h3 h4 h5).weak fun σ H QH ⟨τ, S, Q, R, so, q, k⟩ => ⟨τ, S, _, R, so, q, fun v H1 d S1 so1 st1 r1 ⟨ty, q1⟩ => ⟨tyV_of so1 r1 ty, τ, S1, _, R.step st1, so1, q1, fun vs H2 ds S2 so2 st2 r2 q2 =>
    ⟨d, ds, S2, Q, r1.step st2, r2, so2, q2, fun v H' d S' so' st' r' q' => k v H' d S' so' ((st1.trans st2).trans st') r' q'⟩⟩⟩
theorem e_bm0 {name : Str} {apos : Pos} {T id : String} {am : AV → List AV → Store → AK → Prop} {to : AE} {o : Expr} (pa : PlainAttrs T) (slot : Slot T name id) (hty : typeOf (.builtin id) = pure (.type "method_descriptor")) (hm : MtR X id (lowM X.K am)) (ho : PE X o (low (kx X bb) to))
    (hbase : attributeBase o name X.env (eval o X.env) = eval o X.env := by rfl) (h3 : (apos.endLine == pos.line) = true := by decide +kernel) :
    PE X (.Call (.Attribute o name apos) [] [] pos) (low (kx X bb) (fun τ S Q => to τ S fun x S1 => tyA T S1 x ∧ am x [] S1 Q)) :=
  (pe_bm0 pa slot hty hm ho hbase h3).weak fun σ H QH ⟨τ, S, Q, R, so, q, k⟩ => ⟨τ, S, _, R, so, q, fun v H1 d S1 so1 st1 r1 ⟨ty, q1⟩ => ⟨tyV_of so1 r1 ty,
    ⟨d, [], S1, Q, r1, .nil, so1, q1, fun v H' d S' so' st' r' q' => k v H' d S' so' (st1.trans st') r' q'⟩⟩⟩
/-- the stored list at l becomes another one -/
theorem mutL {K : PySem.W.Frag} {H : Hp} {S : Store} {l : Addr} {ds ds' : List AV} {vs : List V} (so : StOk K H S) (hs : S l = some (.lst ds)) (r : RelAs K H S vs ds') : StOk K (upd H l (.lst vs)) (updS S l (.lst ds')) ∧ Step H S (upd H l (.lst vs)) (updS S l (.lst ds')) := by
  have st : Step H S (upd H l (.lst vs)) (updS S l (.lst ds')) := step_mut hs (by intro z; cases z)
  exact ⟨stok_mut so hs (by intro z; cases z) ⟨vs, upd_same, r.step st⟩, st⟩
def mAppend (x : AV) (as : List AV) (S : Store) (Q : AK) : Prop := ∃ l ds y, x = .ref l ∧ as = [y] ∧ S l = some (.lst ds) ∧ ds.length < sizeLine ∧ Q .non (updS S l (.lst (ds ++ [y])))
theorem m_append : MtR X "list.append" (lowM X.K mAppend) := mtr_weak (r := rAppend) (mt_append (X := X)) fun x vs H QH ⟨dx, as, S, Q, rx, rs, so, ⟨l, ds, y, ex, ea, hs, hz, q⟩, k⟩ => by
  subst ex ea
  obtain rfl := rel_refE rx
  obtain ⟨w, rfl, rw'⟩ := rel_one rs
  obtain ⟨ws, hl, rl⟩ := so l _ hs
  obtain ⟨so2, st2⟩ := mutL so hs (rl.app (.cons rw' .nil))
  exact ⟨l, ws, w, rfl, rfl, hl, by rw [rl.length]; exact hz, k _ _ _ _ so2 st2 .non q⟩
def mPop (x : AV) (as : List AV) (S : Store) (Q : AK) : Prop := ∃ l ds y, x = .ref l ∧ as = [] ∧ S l = some (.lst (ds ++ [y])) ∧ Q y (updS S l (.lst ds))
theorem m_pop : MtR X "list.pop" (lowM X.K mPop) := mtr_weak (r := rPop) (mt_pop (X := X)) fun x vs H QH ⟨dx, as, S, Q, rx, rs, so, ⟨l, ds, y, ex, ea, hs, q⟩, k⟩ => by
  subst ex ea
  obtain rfl := rel_refE rx
  cases rs
  obtain ⟨ws, hl, rl⟩ := so l _ hs
  have hlen := rl.length
  rw [List.length_append, List.length_singleton] at hlen
  obtain ⟨w, hw, rw'⟩ := rl.get (i := ds.length) (d := y) (by rw [List.getElem?_append_right (Nat.le_refl _)]; simp)
  have rd : RelAs X.K H S ws.dropLast ds := by
    have := rl.take ds.length
    rw [List.take_left] at this
    rw [List.dropLast_eq_take, hlen]
    exact this
  obtain ⟨so2, st2⟩ := mutL so hs rd
  refine ⟨l, ws, w, rfl, rfl, hl, by rw [hlen]; exact hw, k _ _ _ _ so2 st2 (rw'.step st2) q⟩
end
end L3

set_option Elab.async false
set_option linter.all false
set_option maxRecDepth 100000
set_option maxHeartbeats 2000000
set_option autoImplicit false
/-! L3F: extend, join, items set, reversed tuples, comprehensions over L3. -/
namespace L3
open PySem L2 PyProof.Rows
variable {bb : Birth}

/-! ### list.extend of a tuple -/
section
variable {prog : Program} {w : World} {A : Around} {E : Value → Shared → Prop} {s : Shared}
theorem ext_tup (l : Addr) (items : Array Value) (n : Nat) (b : Addr) (dd : Option Addr) (sl : Array (Option Value)) (more : Array Value) (n2 : Nat) (h0 : ¬(!items.isEmpty && Builtin.List.listTooLong (items.size + more.size)) = true) (h1 : items.size ≤ sizeLine) (h2 : items.size + more.size ≤ sizeLine + 1) :
    Meets (Builtin.«list.extend» ⟨[.ref l, .ref b], []⟩) (fun _ R s => s.heap.get? l = some { cls := .type "list", dict := none, data := .seq items n, slots := #[] } ∧ s.heap.get? b = some { cls := .type "tuple", dict := dd, data := .seq more n2, slots := sl } ∧
      R (.ok (.ret Value.none)) { s with heap := s.heap.update l (Obj.mapSeq fun x => x ++ more), toks := s.toks }) :=
  .of_wp fun prog w A R s h => by
    obtain ⟨hp, g, d, tk, os⟩ := s
    obtain ⟨hl, hb, h⟩ := h
    have f1 := AutoSeq1.idx_int; have f2 := AutoSeq1.sub_tuple_tuple; have f3 := AutoSeq1.sub_list_list; have f4 := AutoSeq1.sub_tuple_list; have f5 := AutoSeq1.sub_list_tuple
    have hz' : (items ++ more).size ≤ sizeLine + 1 := by rw [Array.size_append]; exact h2
    wp_walk using (wpAny_updateSeq hl rfl (hz := h1) (_hz' := hz')), wpAny_loadPart' hl, wpAny_loadPart' hb
    exact ⟨_, rfl, h⟩
end
/-! ### t[::-1] -/
theorem pick_rev (xs : Array Value) : ((List.range xs.size).filterMap fun (k : Nat) => xs[(((xs.size : Int) - 1) + (k : Int) * (-1)).toNat]?).toArray = xs.toList.reverse.toArray := by
  have fm : ∀ {α β : Type} {f g : α → Option β} (l : List α), (∀ x ∈ l, f x = g x) → l.filterMap f = l.filterMap g := fun {α β f g} l h => by
    induction l with
    | nil => rfl
    | cons x r ih => rw [List.filterMap_cons, List.filterMap_cons, h x List.mem_cons_self, ih fun y hy => h y (List.mem_cons_of_mem _ hy)]
  congr 1
  have e : ∀ k ∈ List.range xs.size, xs[(((xs.size : Int) - 1) + (k : Int) * (-1)).toNat]? = some (xs.toList.reverse.getD k .none) := by
    intro k hk
    have hk := List.mem_range.mp hk
    have e1 : (((xs.size : Int) - 1) + (k : Int) * (-1)).toNat = xs.size - 1 - k := by omega
    rw [e1, List.getD_eq_getElem?_getD, List.getElem?_reverse (by simpa using hk), Array.length_toList, Array.getElem?_toList, Array.getElem?_eq_getElem (by omega)]
    rfl
  rw [fm _ e]
  have : (fun x => some (xs.toList.reverse.getD x Value.none)) = (some ∘ fun x => xs.toList.reverse.getD x Value.none) := rfl
  rw [this, List.filterMap_eq_map]
  apply List.ext_getElem
  · simp
  · intro i h1 h2
    rw [List.getElem_map, List.getElem_range, List.getD_eq_getElem?_getD, List.getElem?_eq_getElem h2]
    rfl
section
variable {prog : Program} {w : World} {A : Around} {E : Value → Shared → Prop} {s : Shared}
theorem applied_rev {sl : Addr} {vl vu vs : Value} {n : Nat} {Q : Int × Int × Nat → Shared → Prop} (hs : s.heap.IsSliceOf sl vl vu vs) (pl : IsPart vl none) (pu : IsPart vu none) (ps : IsPart vs (some (-1)))
    (h : Q ((n : Int) - 1, -1, n) s) : wpAny (model prog w) A (Builtin.Slice.sliceApplied (.ref sl) (pure (n : Int))) Q E s := by
  obtain ⟨os, hos, hcs, hds⟩ := id hs
  unfold Builtin.Slice.sliceApplied Builtin.Slice.sliceFields
  refine wpAny_bind (wpAny_bind (wpAny_field hos hds (x := vl) rfl ?_))
  refine wpAny_bind (wpAny_field hos hds (x := vu) rfl (wpAny_bind (wpAny_field hos hds (x := vs) rfl (wpAny_pure ?_))))
  refine wpAny_bind (HT.slicePart_ ps ?_)
  show wpAny _ _ (if ((-1 : Int) == 0) = true then _ else _) _ _ s
  rw [if_neg (by decide)]
  refine wpAny_bind (HT.slicePart_ pl ?_)
  refine wpAny_bind (HT.slicePart_ pu ?_)
  refine wpAny_bind (wpAny_pure ?_)
  have e1 : Builtin.Slice.sliceAdjust none none (-1) (n : Int) = ((n : Int) - 1, -1) := rfl
  have e2 : Builtin.Slice.slicePlaces ((n : Int) - 1) (-1) (-1) = n := by
    unfold Builtin.Slice.slicePlaces
    rw [if_neg (by decide)]
    by_cases hn : (n : Int) - 1 > -1
    · rw [if_pos hn, show (- -1 : Int) = 1 by decide, Int.ediv_one]
      omega
    · rw [if_neg hn]
      omega
  show wpAny _ _ (match Builtin.Slice.sliceAdjust none none (-1) (n : Int) with | (lo, hi) => pure (lo, (-1 : Int), Builtin.Slice.slicePlaces lo hi (-1))) _ _ s
  rw [e1]
  show wpAny _ _ (pure ((n : Int) - 1, (-1 : Int), Builtin.Slice.slicePlaces ((n : Int) - 1) (-1) (-1))) _ _ s
  rw [e2]
  exact wpAny_pure h
theorem getItem_tup_rev {t sl : Addr} {items : Array Value} {vl vu vs : Value} {Q : Value → Shared → Prop} (ht : IsTup s.heap t items) (hs : s.heap.IsSliceOf sl vl vu vs) (pl : IsPart vl none) (pu : IsPart vu none) (ps : IsPart vs (some (-1)))
    (h : Q (.ref s.heap.objs.size) { s with heap := s.heap.push { cls := .type "tuple", data := .seq items.toList.reverse.toArray } }) (hsz : items.size ≤ sizeLine) : wpAny (model prog w) A (getItem (.ref t) (.ref sl)) Q E s := by
  obtain ⟨os, hos, hcs, hds⟩ := id hs
  have hTs : s.TypeIs (.ref sl) "slice" := ⟨os, hos, hcs⟩
  have fits : sizeOk (.seq items.toList.reverse.toArray) := by
    show items.toList.reverse.toArray.size ≤ sizeLine
    rw [List.size_toArray, List.length_reverse, Array.length_toList]
    exact hsz
  unfold getItem
  try with_reducible refine wpAny_holding ?_
  first | refine wpAny_bind (wpAny_pure ?_) | skip
  refine wpAny_bind (wpAny_sequenceKey ht.typeIs (by decide) ?_)
  refine wpAny_bind (wpAny_callSpecial?_slot (name := Str.ofString "__getitem__") ht.typeIs PyProof.Rows.slot_tuple_getitem (wpAny_call_entry PyProof.Rows.slot_tuple_getitem ht.typeIs entry_tuple_getitem ?_ (args_tuple_getitem _ _)))
  show wpAny _ _ (Builtin.Tuple.tupleItemsOf (.ref t) >>= _) _ _ s
  refine wpAny_bind (tupleItemsOf_ ht (wpAny_bind (wpAny_typeOf hTs ?_)))
  rw [if_pos (by decide)]
  refine wpAny_bind (applied_rev hs pl pu ps ?_)
  have hno : ¬ (((items.size : Int) - 1 == 0 && (-1 : Int) == 1 && items.size == items.size) = true) := by simp
  show wpAny _ _ (if ((items.size : Int) - 1 == 0 && (-1 : Int) == 1 && items.size == items.size) = true then _ else _) _ _ s
  rw [if_neg hno, pick_rev]
  first
    | exact wpAny_bind (m := Builtin.Tuple.tupleExact _) (wpAny_newObj_type (wpAny_pure ⟨_, rfl, wpAny_pure h⟩) fits)
    | exact wpAny_bind (m := Builtin.Tuple.tupleExact _) (wpAny_newObj_type (wpAny_bind (wpAny_pure (wpAny_pure ⟨_, rfl, wpAny_pure h⟩))) fits)
    | exact wpAny_bind (wpAny_bind (m := Builtin.Tuple.tupleExact _) (wpAny_newObj_type (wpAny_pure (wpAny_pure ⟨_, rfl, wpAny_pure h⟩)) fits))
    | exact wpAny_bind (wpAny_bind (m := Builtin.Tuple.tupleExact _) (wpAny_newObj_type (wpAny_pure ⟨_, rfl, wpAny_pure h⟩) fits))
end
section
variable {X : Cx} {e a b c : Expr} {es : List Expr} {ta tb tc : AE} {t : AA} {pos p : Pos}
def tRevT (K : PySem.W.Frag) (te : TE) : TE := fun σ H Q => te σ H fun x H1 => ∃ a xs, x = .ref a ∧ SqT K H1 a xs ∧ ∀ p, H1 p = none → Q (.ref p) (upd H1 p (.tup xs.reverse))
theorem pe_revT {te : TE} {k : Nat} {p1 p2 p3 : Pos} (he : PE X e te) : PE X (.Subscript e (.Slice none none (some (.UnaryOp .USub (.Constant (.int 1) k p1) p2)) p3) pos) (tRevT X.K te) := by
  refine ⟨fun pins s σ H Q I h => Subscript_ (thn (he.run pins s σ H _ I h) fun v s1 hv => ?_)⟩
  obtain ⟨x, H1, I1, r1, a, xs, rfl, hx, q⟩ := hv
  cases r1
  have pStep : PO X (some (.UnaryOp .USub (.Constant (.int 1) k p1) p2)) (tPart (tUn (rU fun i => .int (-i)) (tC (.int 1)))) := po_some (pe_un un_neg pe_int)
  refine wpAny_Slice (thn (po_none.run pins s1 σ H1 (fun o G => o = none ∧ G = H1) I1 ⟨rfl, rfl⟩) fun vl s2 hl => ?_)
  obtain ⟨l, H2, I2, pl, rfl, rfl⟩ := hl
  refine thn (po_none.run pins s2 σ H2 (fun o G => o = none ∧ G = H2) I2 ⟨rfl, rfl⟩) fun vu s3 hu => ?_
  obtain ⟨u, H3, I3, pu, rfl, rfl⟩ := hu
  refine thn (pStep.run pins s3 σ H3 (fun o G => o = some (-1) ∧ G = H3) I3 ⟨1, rfl, -1, rfl, rfl, rfl⟩) fun vs s4 hs => ?_
  obtain ⟨o, H4, I4, ps, rfl, rfl⟩ := hs
  have I5 : Inv X pins σ H4 { s4 with heap := s4.heap.push { cls := .type "slice", data := .fields #[vl, vu, vs] } } := I4.kept (t' := s4.toks) fun b ob q => Heap.get?_push_of_some _ q
  obtain ⟨its, r, ht, hz⟩ := I5.tuple hx
  have hlen := r.length
  show wpAny (model X.prog X.w) X.A (subscriptTail e (.Slice none none (some (.UnaryOp .USub (.Constant (.int 1) k p1) p2)) p3) (.ref a) (.ref s4.heap.objs.size)) (EP X pins σ Q) X.xe { s4 with heap := s4.heap.push { cls := .type "slice", data := .fields #[vl, vu, vs] } }
  refine tail_any (ops := [.ref a, .ref s4.heap.objs.size]) ht.typeIs PyProof.Rows.slot_tuple_getitem.lookup ?_ (by with_unfolding_all rfl)
  refine getItem_tup_rev ht (Heap.IsSliceOf.new _ vl vu vs) pl pu ps ?_ (by rw [List.size_toArray]; omega)
  exact ⟨.ref _, _, I5.laid (t' := s4.toks) (o := .tup xs.reverse) (fun b ob q => Heap.get?_push_of_some _ q) (Nat.le_refl _) ⟨by rw [List.length_reverse]; exact hz, its.reverse, r.reverse, ⟨_, Heap.get?_push_size _ rfl, rfl, _, rfl⟩⟩, rfl, q _ (I5.hok.fresh (Nat.le_refl _))⟩
def aRevT (ta : AE) : AE := fun τ S Q => ta τ S fun d S1 => ∃ xs, d = .tup xs ∧ Q (.tup xs.reverse) S1
theorem e_revT {k : Nat} {p1 p2 p3 : Pos} (he : PE X e (low (kx X bb) ta)) : PE X (.Subscript e (.Slice none none (some (.UnaryOp .USub (.Constant (.int 1) k p1) p2)) p3) pos) (low (kx X bb) (aRevT ta)) :=
  (pe_revT he).weak fun σ H QH ⟨τ, S, Q, R, so, q, k⟩ => ⟨τ, S, _, R, so, q, fun v H1 d S1 so1 st1 r1 ⟨xs, e, q1⟩ => by
    subst e
    obtain ⟨a, vs, rfl, ha, ra⟩ := rel_tupE r1
    exact ⟨a, vs, rfl, ha, fun p hp => k _ _ _ S1 (stok_new so1 hp) (st1.trans (step_new so1 hp)) (rel_tup so1 hp ra.reverse) q1⟩⟩

/-! ### extend -/
def rExtT (K : PySem.W.Frag) : V → List V → Hp → VK → Prop := fun x vs H Q => ∃ l b xs zs, x = .ref l ∧ vs = [.ref b] ∧ H l = some (.lst xs) ∧ SqT K H b zs ∧ xs.length + zs.length ≤ sizeLine ∧ Q .non (upd H l (.lst (xs ++ zs)))
theorem mt_extT : MtR X "list.extend" (rExtT X.K) := by
  intro pins s σ H x vs v us Q I rx rv h
  obtain ⟨l, b, xs, zs, rfl, rfl, hH, hB, hz, q⟩ := h
  cases rx
  obtain ⟨u, rfl, ru⟩ := rv.one
  cases ru
  obtain ⟨z, its, n, r, hl, e⟩ := I.lstM hH
  obtain ⟨its2, r2, ⟨⟨oc, od, odt, osl⟩, e2, hc, n2, hd⟩, z2⟩ := I.tuple hB
  simp only at hc hd
  subst hc hd
  have hl2 := r2.length
  have fits : its.toArray.size + its2.toArray.size ≤ sizeLine := by rw [List.size_toArray, List.size_toArray]; omega
  have short : ¬ (!its.toArray.isEmpty && Builtin.List.listTooLong (its.toArray.size + its2.toArray.size)) = true := by
    rw [notLongL fits, Bool.and_false]
    exact Bool.false_ne_true
  refine call_meets F.slot_list_extend ⟨_, e, rfl⟩ F.entry_list_extend (F.args_list_extend_2 _ _) (ext_tup l its.toArray n b od osl its2.toArray n2 short (by rw [List.size_toArray]; omega) (by omega)) ⟨e, e2, ?_⟩
  exact ⟨.non, _, I.lset (its' := its ++ its2) hH e (by simp) (r.append r2) (by rw [List.length_append]; omega), rfl, q⟩
def mExtend (x : AV) (as : List AV) (S : Store) (Q : AK) : Prop := ∃ l ds y es, x = .ref l ∧ as = [y] ∧ S l = some (.lst ds) ∧ ((∃ l2, y = .tup l2 ∧ es = l2) ∨ wstA S y = some es) ∧ ds.length + es.length ≤ sizeLine ∧ Q .non (updS S l (.lst (ds ++ es)))
theorem mtr_or {id : String} {r r' : V → List V → Hp → VK → Prop} (h : MtR X id r) (h' : MtR X id r') : MtR X id (fun x xs H Q => r x xs H Q ∨ r' x xs H Q) := fun pins s σ H x xs v us Q I rx rs q => q.elim (fun q => h pins s σ H x xs v us Q I rx rs q) fun q => h' pins s σ H x xs v us Q I rx rs q
theorem m_extend : MtR X "list.extend" (lowM X.K mExtend) := mtr_weak (mtr_or (r := rExtend) (mt_extend (X := X)) mt_extT) fun x vs H QH ⟨dx, as, S, Q, rx, rs, so, ⟨l, ds, y, es, ex, ea, hs, hy, hz, q⟩, k⟩ => by
  subst ex ea
  obtain rfl := rel_refE rx
  obtain ⟨w, rfl, rw'⟩ := rel_one rs
  obtain ⟨ws, hl, rl⟩ := so l _ hs
  rcases hy with ⟨l2, rfl, rfl⟩ | hy
  · obtain ⟨b, zs, rfl, hb, rb⟩ := rel_tupE rw'
    obtain ⟨so2, st2⟩ := mutL so hs (rl.app rb)
    exact .inr ⟨l, b, ws, zs, rfl, rfl, hl, hb, by rw [rl.length, rb.length]; exact hz, k _ _ _ _ so2 st2 .non q⟩
  · obtain ⟨b, zs, rfl, hb, rb⟩ := rel_wstE so rw' hy
    obtain ⟨so2, st2⟩ := mutL so hs (rl.app rb)
    exact .inl ⟨l, b, ws, zs, rfl, rfl, hl, hb, by rw [rl.length, rb.length]; exact hz, k _ _ _ _ so2 st2 .non q⟩
/-- sep.join(texts) -/
def isStrA : AV → Bool
  | .str _ => true
  | _ => false
def strOf : AV → Str
  | .str z => z
  | _ => Str.empty
theorem rel_strs {K : PySem.W.Frag} {H : Hp} {S : Store} : ∀ {vs : List V} {ds : List AV}, RelAs K H S vs ds → ds.all isStrA = true → vs = (ds.map strOf).map V.str
  | _, _, .nil, _ => rfl
  | _, _, .cons (d := d) r t, e => by
    rw [List.all_cons, Bool.and_eq_true_iff] at e
    cases d with
    | str b => rw [rel_strE r, rel_strs t e.2]; rfl
    | _ => cases e.1
def mJoin (x : AV) (as : List AV) (S : Store) (Q : AK) : Prop := ∃ z y xs, x = .str z ∧ as = [y] ∧ seqA S y = some xs ∧ xs.all isStrA = true ∧ ((xs.map strOf).map (·.length)).sum + xs.length * z.length ≤ 16777216 ∧ Q (.str (Txt.join z (xs.map strOf))) S
theorem m_join : MtR X "str.join" (lowM X.K mJoin) := mtr_weak mt_join fun x vs H QH ⟨dx, as, S, Q, rx, rs, so, ⟨z, y, xs, ex, ea, hy, hs, hz, q⟩, k⟩ => by
  subst ex ea
  obtain rfl := rel_strE rx
  obtain ⟨w, rfl, rw'⟩ := rel_one rs
  obtain ⟨b, zs, rfl, hb, rb⟩ := rel_seqE so rw' hy
  have e := rel_strs rb hs
  subst e
  exact ⟨z, b, xs.map strOf, rfl, rfl, hb, by rw [List.length_map]; exact hz, k _ H _ S so .refl (.str _) q⟩

/-! ### xs[i] = v -/
def agSub (to ti : AE) : AG := fun d τ S Q => to τ S fun o S1 => ti τ S1 fun i S2 => ∃ l ds k j, o = .ref l ∧ i = .int k ∧ S2 l = some (.lst ds) ∧ ixN ds.length k = some j ∧ Q τ (updS S2 l (.lst (ds.set j d)))
theorem g_sub {o i : Expr} {to ti : AE} (ho : PE X o (low (kx X bb) to)) (hi : PE X i (low (kx X bb) ti)) (hs : ∀ v, assign (.Subscript o i pos) X.env v = (do
    let ov ← holding [v] (eval o X.env)
    let iv ← holding [v, ov] (eval i X.env)
    standAt pos
    holding [v, ov, iv] (setItem ov iv v)
    release [v, ov, iv] []) := by intro _; rfl) : PG X (.Subscript o i pos) (lowG (kx X bb) (agSub to ti)) := (pg_sub ho hi set_list hs).weak fun v σ H QH ⟨d, τ, S, Q, r, R, so, q, k⟩ =>
  ⟨τ, S, _, R, so, q, fun vo H1 dO S1 so1 st1 r1 q1 => ⟨τ, S1, _, R.step st1, so1, q1, fun vi H2 di S2 so2 st2 r2 ⟨l, ds, kk, j, eo, ei, hs, hj, q2⟩ => by
    subst eo ei
    obtain rfl := rel_refE r1
    obtain rfl := rel_intE r2
    obtain ⟨ws, hl, rl⟩ := so2 l _ hs
    have st := st1.trans st2
    obtain ⟨so3, st3⟩ := mutL so2 hs (rl.set (r.step st) j)
    exact ⟨l, ws, kk, j, rfl, rfl, hl, by rw [rl.length]; exact hj, k _ _ _ _ so3 (st.trans st3) (R.step (st.trans st3)) q2⟩⟩⟩

/-! ### comprehensions -/
def wipeA (τ : ASt) : List Nat → ASt
  | [] => τ
  | v :: vs => (wipeA τ vs).set v none
theorem Rp.forget {kb : KB} {H : Hp} {S : Store} {σ : L2.St} {τ : ASt} (r : Rp kb H S σ τ) (i : Nat) : Rp kb H S (σ.set i none) (τ.set i none) := by
  refine ⟨by rw [List.length_set, List.length_set, r.len], fun j d h => ?_, r.bt⟩
  by_cases z : j = i
  · subst z
    by_cases hl : j < τ.length
    · rw [List.getElem?_set_self hl] at h; cases h
    · rw [List.getElem?_eq_none (by rw [List.length_set]; omega)] at h; cases h
  · rw [List.getElem?_set_ne (Ne.symm z)] at h
    obtain ⟨v, hv, q⟩ := r.at_ j d h
    exact ⟨v, by rw [List.getElem?_set_ne (Ne.symm z)]; exact hv, q⟩
theorem Rp.wipe {kb : KB} {H : Hp} {S : Store} {σ : L2.St} {τ : ASt} (r : Rp kb H S σ τ) : ∀ vs : List Nat, Rp kb H S (L2.wipe σ vs) (wipeA τ vs)
  | [] => r
  | v :: vs => (Rp.wipe r vs).forget v
theorem wipe_set {σ : L2.St} {i : Nat} {o : Option V} : ∀ {vs : List Nat}, i ∈ vs → L2.wipe (σ.set i o) vs = L2.wipe σ vs
  | v :: vs, h => by
    show (L2.wipe (σ.set i o) vs).set v none = (L2.wipe σ vs).set v none
    by_cases z : i ∈ vs
    · rw [wipe_set z]
    · have hv : i = v := by simpa [z] using h
      subst hv
      have out : ∀ (ws : List Nat) (σ : L2.St), i ∉ ws → L2.wipe (σ.set i o) ws = (L2.wipe σ ws).set i o := by
        intro ws
        induction ws with
        | nil => intro σ _; rfl
        | cons u us ih =>
          intro σ hn
          simp only [List.mem_cons, not_or] at hn
          show (L2.wipe (σ.set i o) us).set u none = ((L2.wipe σ us).set u none).set i o
          rw [ih σ hn.2, List.set_comm _ _ hn.1]
      rw [out vs σ z, List.set_set]
theorem wipe_wipe (σ : L2.St) : ∀ vs : List Nat, (∀ ws, (∀ v ∈ vs, v ∈ ws) → L2.wipe (L2.wipe σ vs) ws = L2.wipe σ ws)
  | [] => fun _ _ => rfl
  | v :: vs => fun ws h => by
    show L2.wipe ((L2.wipe σ vs).set v none) ws = _
    rw [wipe_set (h v List.mem_cons_self)]
    exact wipe_wipe σ vs ws fun u hu => h u (List.mem_cons_of_mem _ hu)
/-- [e for x in xs if t]: the new list as one that does not change any more -/
def aLc (ai : AI) (j : Nat) (tt : AT) (te : AE) (vs : List Nat) : AE := fun τ S Q => ai τ S fun xs G S1 => ∀ D, S1 D = none → ∃ I : Nat → List AV → Store → Prop, I 0 [] (updS S1 D .hid) ∧
  (∀ (i : Nat) x acc S2, xs[i]? = some x → I i acc S2 → G S2 ∧ tt ((wipeA τ vs).set j (some x)) S2 fun b S3 => if b = true then te ((wipeA τ vs).set j (some x)) S3 fun y S4 => acc.length < sizeLine ∧ I (i + 1) (acc ++ [y]) S4 else I (i + 1) acc S3) ∧
  (∀ acc S2, I xs.length acc S2 → G S2 ∧ Q (.lst acc) (dropS S2 D))
/-- the list that grows, as a hidden thing of the store -/
theorem lc_low {kb : KB} {wi : TI} {ai : AI} {g : TG} {tt : AT} {te : AE} {vs : List Nat} {j : Nat} (hj : j ∈ vs) (hwi : wi = lowI kb ai) (hg : g = gName j) : ∀ σ H QH, low kb (aLc ai j tt te vs) σ H QH → tLc wi g (lowT kb tt) (low kb te) vs σ H QH := by
  subst hwi hg
  intro σ H QH ⟨τ, S, Q, R, so, q, k⟩
  refine ⟨τ, S, _, R, so, q, fun J H1 xs G S1 so1 st1 it hI D hD => ?_⟩
  obtain ⟨I, i0, hstep, hend⟩ := hI D (so1.fresh hD)
  have nD : S1 D = none := so1.fresh hD
  -- the start
  have stD : Step H1 S1 (upd H1 D (.lst [])) (updS S1 D .hid) := step_put so1 hD
  have soD : StOk kb.K (upd H1 D (.lst [])) (updS S1 D .hid) := stok_put (u := .hid) so1 hD ⟨_, upd_same⟩
  refine ⟨fun i m H' => ∃ acc S2 ws, I i acc S2 ∧ i + m = xs.length ∧ StOk kb.K H' S2 ∧ S2 D = some .hid ∧ H' D = some (.lst ws) ∧ RelAs kb.K H' S2 ws acc ∧
    (∀ a o, a ≠ D → S1 a = none → H1 a = some o → H' a = some o ∧ S2 a = none) ∧ (∀ a, S1 a = some .hid → H' a = H1 a ∧ S2 a = some .hid), ⟨xs.length, [], _, [], i0, by omega, soD, updS_same, upd_same, .nil, fun a o _ n h => stD.old a o n h, fun a h => stD.hid a h⟩, ?_⟩
  intro i m H2 ⟨acc, S2, ws, w2, hm, so2, hh2, hD2, r2, old2, hid2⟩
  have st2 : Step H1 S1 H2 S2 := ⟨fun a o n h => old2 a o (ne_of_none h hD) n h, hid2⟩
  by_cases hi : i < xs.length
  · right
    have hx : xs[i]? = some xs[i] := List.getElem?_eq_getElem hi
    obtain ⟨hG, hq⟩ := hstep i _ acc S2 hx w2
    obtain ⟨hgo, hy⟩ := (it H2 S2 so2 st2 hG).1 i _ hx
    refine ⟨hgo, _, fun H' h => h, fun v H3 hv => ?_⟩
    obtain ⟨so3, st3, r3⟩ := hy v H3 hv
    refine ⟨by rw [wipe_set hj]; exact wipe_wipe σ vs vs fun _ h => h, ?_⟩
    have R3 : Rp kb H3 S2 ((L2.wipe σ vs).set j (some v)) ((wipeA τ vs).set j (some xs[i])) := (((R.step st1).step st2).step st3).wipe vs |>.set r3 j
    have keep : ∀ {H4 : Hp} {S4 : Store}, Step H2 S2 H4 S4 → H4 D = some (.lst ws) ∧ S4 D = some .hid ∧ RelAs kb.K H4 S4 ws acc ∧ (∀ a o, a ≠ D → S1 a = none → H1 a = some o → H4 a = some o ∧ S4 a = none) ∧ (∀ a, S1 a = some .hid → H4 a = H1 a ∧ S4 a = some .hid) := by
      intro H4 S4 st
      obtain ⟨e1, e2⟩ := st.hid D hh2
      exact ⟨e1.trans hD2, e2, r2.step st, fun a o ne n h => let ⟨h1, n1⟩ := old2 a o ne n h; st.old a o n1 h1, fun a h => let ⟨h1, n1⟩ := hid2 a h; let ⟨h3, n3⟩ := st.hid a n1; ⟨h3.trans h1, n3⟩⟩
    refine ⟨_, S2, _, R3, so3, hq, fun b H4 S4 so4 st4 q4 => ?_⟩
    cases b with
    | false =>
      rw [if_neg Bool.false_ne_true] at q4 ⊢
      obtain ⟨e1, e2, e3, e4, e5⟩ := keep (st3.trans st4)
      exact ⟨m - 1, by omega, acc, S4, ws, q4, by omega, so4, e2, e1, e3, e4, e5⟩
    | true =>
      rw [if_pos rfl] at q4 ⊢
      refine ⟨_, S4, _, R3.step st4, so4, q4, fun y H5 dy S5 so5 st5 r5 ⟨hz, w5⟩ => ?_⟩
      obtain ⟨e1, e2, e3, e4, e5⟩ := keep ((st3.trans st4).trans st5)
      refine ⟨ws, e1, by rw [r2.length]; exact hz, m - 1, by omega, acc ++ [dy], S5, ws ++ [y], w5, by omega, ?_⟩
      -- the list at D has grown; nothing else
      have grow : Old H5 S5 (upd H5 D (.lst (ws ++ [y]))) S5 := fun a o n h => by
        have ne : a ≠ D := by rintro rfl; rw [e2] at n; cases n
        exact ⟨by rw [upd_ne ne]; exact h, n⟩
      refine ⟨fun a o e => ?_, e2, upd_same, (e3.app (.cons r5 .nil)).stepO grow, fun a o ne n h => by rw [upd_ne ne]; exact e4 a o ne n h, fun a h => ?_⟩
      · by_cases z : a = D
        · subst z
          rw [e2] at e
          cases e
          exact ⟨_, upd_same⟩
        · exact (so5 a o e).stepO grow (upd_ne z)
      · have z : a ≠ D := by rintro rfl; rw [nD] at h; cases h
        rw [upd_ne z]
        exact e5 a h
  · left
    have e : i = xs.length := by omega
    subst e
    obtain ⟨hG, hq⟩ := hend acc S2 w2
    have less : Old H2 S2 H2 (dropS S2 D) := fun a o n h => ⟨h, by unfold dropS; split; rfl; exact n⟩
    refine ⟨(it H2 S2 so2 st2 hG).2, k _ H2 _ (dropS S2 D) (fun a o e => ?_) (st1.trans ⟨fun a o n h => ?_, fun a h => ?_⟩) (.lst hD2 dropS_same (r2.stepO less)) hq⟩
    · have ne : a ≠ D := by rintro rfl; rw [dropS_same] at e; cases e
      rw [dropS_ne ne] at e
      exact (so2 a o e).stepO less rfl
    · obtain ⟨h1, n1⟩ := st2.old a o n h
      exact ⟨h1, (less a o n1 h1).2⟩
    · obtain ⟨h1, n1⟩ := st2.hid a h
      have ne : a ≠ D := by rintro rfl; rw [nD] at h; cases h
      exact ⟨h1, by rw [dropS_ne ne]; exact n1⟩
end
end L3

set_option Elab.async false
set_option linter.all false
set_option maxRecDepth 100000
set_option maxHeartbeats 2000000
set_option autoImplicit false
/-! L3H: comprehensions as expressions and set to names, calls with keywords, stores to slices. -/
namespace L3
open PySem L2 PyProof.Rows
variable {bb : Birth}
section
variable {X : Cx} {e a b c : Expr} {es : List Expr} {ta tb tc te : AE} {tt : AT} {t : AA} {pos p : Pos}

/-! ### comprehensions -/
def aYes : AT := fun _ S Q => Q true S
theorem ts_nil : PTs X [] (lowT (kx X bb) aYes) := pts_nil.weak fun σ H QH ⟨τ, S, Q, R, so, q, k⟩ => k true H S so .refl q
theorem ts_one (h : PT X c (lowT (kx X bb) tt)) : PTs X [c] (lowT (kx X bb) tt) := pts_one h
section
variable {elt tg iter : Expr} {ifs : List Expr} {scope : Scope} {own : List (Str × Nat)} {spos : Pos} {ai : AI} {j : Nat}
theorem e_lc (j : Nat) (own : List (Str × Nat)) (hc : X.calm = true) (hN : X.N.Nodup) (hi : PI X tg iter (lowI (kx X bb) ai)) (ok : BlkOk X.N X.env.scope scope own)
    (hg : ∀ (s : Shared) (H : Hp) (C : Addr) (cl : List (Str × Addr)) (fp : List Addr), PG (X.blk s H scope (compEnvC scope cl C X.env) fp) tg (gName j))
    (ht : ∀ (s : Shared) (H : Hp) (C : Addr) (cl : List (Str × Addr)) (fp : List Addr), PTs (X.blk s H scope (compEnvC scope cl C X.env) fp) ifs (lowT (kx X bb) tt))
    (he : ∀ (s : Shared) (H : Hp) (C : Addr) (cl : List (Str × Addr)) (fp : List Addr), PE (X.blk s H scope (compEnvC scope cl C X.env) fp) elt (low (kx X bb) te))
    (hj : j ∈ own.map (·.2) := by decide) (hs : ∀ x, foldedSetIterable iter X.env x = pure x := by intro _; rfl) : PE X (.ListComp elt [⟨tg, iter, ifs, 0⟩] scope pos) (low (kx X bb) (aLc ai j tt te (own.map (·.2)))) :=
  (pe_lc (own := own) hc hN hi ok hg ht he hs).weak (lc_low hj rfl rfl)
theorem s_setLc {y : Str} {py : Pos} (i : Nat) (j : Nat) (own : List (Str × Nat)) (hc : X.calm = true) (hN : X.N.Nodup) (hi : PI X tg iter (lowI (kx X bb) ai)) (ok : BlkOk X.N X.env.scope scope own)
    (hg : ∀ (s : Shared) (H : Hp) (C : Addr) (cl : List (Str × Addr)) (fp : List Addr), PG (X.blk s H scope (compEnvC scope cl C X.env) fp) tg (gName j))
    (ht : ∀ (s : Shared) (H : Hp) (C : Addr) (cl : List (Str × Addr)) (fp : List Addr), PTs (X.blk s H scope (compEnvC scope cl C X.env) fp) ifs (lowT (kx X bb) tt))
    (he : ∀ (s : Shared) (H : Hp) (C : Addr) (cl : List (Str × Addr)) (fp : List Addr), PE (X.blk s H scope (compEnvC scope cl C X.env) fp) elt (low (kx X bb) te))
    (hsw : swapsWith (.ListComp elt [⟨tg, iter, ifs, 0⟩] scope pos) (some (.Name y py)) spos.line X.env = pure true := by exact sw_true rfl rfl rfl (by decide +kernel))
    (hy : X.N[i]? = some y := by rfl) (hyl : X.env.scope.names.lookup y = some .local := by rfl)
    (hj : j ∈ own.map (·.2) := by decide) (hs : ∀ x, foldedSetIterable iter X.env x = pure x := by intro _; rfl) : PS X (.Assign [.Name y py] (.ListComp elt [⟨tg, iter, ifs, 0⟩] scope pos) spos) (lowS (kx X bb) (aAsg (aLc ai j tt te (own.map (·.2))) (agName i))) :=
  (ps_setLc (own := own) hc hN hy hyl hsw hi ok hg ht he hs).weak fun D σ H ⟨τ, S, DA, R, so, q, k⟩ => lc_low hj rfl rfl σ H _ ⟨τ, S, _, R, so, q, fun v H' d S' so' st' r' q' => k.nx _ H' _ S' so' st' ((R.step st').set r' i) q'⟩
end
/-- the iterator goes over one list all the way: what a pure turn gives -/
theorem lc_map {ai : AI} {j : Nat} {tt : AT} {te : AE} {vs : List Nat} {τ : ASt} {S : Store} {Q : AK} (h : ai τ S fun xs G S1 => xs.length ≤ sizeLine ∧ ∃ f : AV → AV, (∀ S2, G S1 → G S2) ∧ G S1 ∧
    (∀ (i : Nat) x S2, xs[i]? = some x → (∀ Qb : Bool → Store → Prop, Qb true S2 → tt ((wipeA τ vs).set j (some x)) S2 Qb) ∧ ∀ Qe : AK, Qe (f x) S2 → te ((wipeA τ vs).set j (some x)) S2 Qe) ∧ Q (.lst (xs.map f)) S1)
    (mono : ∀ Q1 Q2 : List AV → (Store → Prop) → Store → Prop, (∀ xs G S1, Q1 xs G S1 → Q2 xs G S1) → ai τ S Q1 → ai τ S Q2) : aLc ai j tt te vs τ S Q := by
  refine mono _ _ (fun xs G S1 ⟨hl, f, gm, g1, ht, q⟩ => fun D hD => ?_) h
  refine ⟨fun i acc S2 => i ≤ xs.length ∧ acc = (xs.take i).map f ∧ S2 = updS S1 D .hid, ⟨Nat.zero_le _, rfl, rfl⟩, fun i x acc S2 hx ⟨hi, ea, es⟩ => ?_, fun acc S2 ⟨hi, ea, es⟩ => ?_⟩
  · obtain ⟨h1, h2⟩ := ht i x S2 hx
    have hlt := (List.getElem?_eq_some_iff.mp hx).1
    refine ⟨gm S2 g1, h1 _ ?_⟩
    rw [if_pos rfl]
    refine h2 _ ⟨?_, hlt, ?_, es⟩
    · rw [ea, List.length_map, List.length_take]
      omega
    · rw [ea, List.take_add_one, hx]
      simp
  · refine ⟨gm S2 g1, ?_⟩
    rw [ea, es, List.take_length, dropS_upd hD]
    exact q

/-! ### keywords -/
structure FnK (P : Program) (w : World) (K : PySem.W.Frag) (mg : Str → Option Value) (base : Heap) (k : Nat) (x : Str) (ps : List Str) (asp : ASp) (n : Nat) (ks : List Str) (g : {α : Type} → List α → List α → List α) : Prop where
  ex : ∃ (f : Addr) (fd : FuncData), FnG P w K mg base k f fd ps (spOf K asp) ∧ mg x = some (.ref f) ∧ PySem.W.keepIn K (.ref f) = true ∧
    (∀ (s : Shared) (us ws : List Value), us.length = n → ws.length = ks.length → BindsTo s fd ⟨us, ks.zip ws⟩ (ps.zip (g us ws)))
  vals : ∀ {vs : List V} {us : List Value} {zs : List V} {ws : List Value}, vs.length = n → zs.length = ks.length → Vals vs us → Vals zs ws → Vals (g vs zs) (g us ws)
  rels : ∀ {H : Hp} {S : Store} {vs zs : List V} {ds es : List AV}, vs.length = n → zs.length = ks.length → RelAs K H S vs ds → RelAs K H S zs es → RelAs K H S (g vs zs) (g ds es)
theorem run_gk {k : Nat} {f : Addr} {fd : FuncData} {ps ks : List Str} {sp : Sp} {g : List Value → List Value → List Value} {gV : List V → List V → List V} {pins : List (Addr × Obj)} {σ : L2.St} {H : Hp} {s : Shared} {Q : VK} {us ws : List Value} {vs zs : List V} (F : FnG X.prog X.w X.K X.mg X.base k f fd ps sp) (gd : X.A.guards = some [])
    (hr : Room k X.A) (hb : BindsTo s fd ⟨us, ks.zip ws⟩ (ps.zip (g us ws))) (I : Inv X pins σ H s) (r : Vals (gV vs zs) (g us ws)) (h : sp (gV vs zs) H Q E0) : wpAny (model X.prog X.w) X.A (call (.ref f) us (ks.zip ws)) (fun u s' => EP X pins σ Q u s') X.xe s := by
  refine wpAny_call (codeAny_mono (F.go X.A gd hr X.stack s H ⟨us, ks.zip ws⟩ (g us ws) (gV vs zs) Q E0 I.env0 hb r h) fun r' s' z => ?_)
  cases r' with
  | error e => exact False.elim z
  | ok fl =>
    cases fl with
    | brk => exact z.elim
    | cont => exact z.elim
    | next => exact z.elim
    | ret u => exact I.after z
def lowK (kb : KB) (aa : AA) : TA := lowA kb aa
theorem k_nil : PK X [] (lowA (kx X bb) aNil) := ⟨fun pos pins s σ H Q I h => pk_nil.run pos pins s σ H Q I (by obtain ⟨τ, S, QA, R, so, q, k⟩ := h; exact k [] H [] S so .refl .nil q)⟩
theorem k_cons {nm : Option Str} {kpos : Pos} {kws : List Keyword} {tr : AA} (ha : PE X e (low (kx X bb) ta)) (hr : PK X kws (lowA (kx X bb) tr)) : PK X (⟨nm, e, kpos⟩ :: kws) (lowA (kx X bb) (aCons ta tr)) := ⟨fun pos pins s σ H Q I h => (pk_cons ha hr).run pos pins s σ H Q I (by
  obtain ⟨τ, S, QA, R, so, q, k⟩ := h
  exact ⟨τ, S, _, R, so, q, fun v H1 d S1 so1 st1 r1 q1 => ⟨τ, S1, _, R.step st1, so1, q1, fun vs H2 ds S2 so2 st2 r2 q2 => k (v :: vs) H2 (d :: ds) S2 so2 (st1.trans st2) (.cons (r1.step st2) r2) q2⟩⟩)⟩
/-- f(k = v, ..) -/
def aCallK (asp : ASp) (m : Nat) (g : List AV → List AV → List AV) (tk : AA) : AE := fun τ S Q => tk τ S fun zs S1 => zs.length = m ∧ asp (g [] zs) S1 Q
theorem f_callK0 {k : Nat} {x : Str} {ps ks : List Str} {asp : ASp} {g : {α : Type} → List α → List α → List α} {kws : List Keyword} {tk : AA} (F : FnK X.prog X.w X.K X.mg X.base k x ps asp 0 ks g) (gd : X.A.guards = some []) (hr : Room k X.A) (hkw : PK X kws (lowA (kx X bb) tk)) (hg : Gl X x := by rfl)
    (hall : (backToKw pos (keywordEach kws X.env)).all (·.1.isSome) = true := by rfl) (hks : (backToKw pos (keywordEach kws X.env)).filterMap (·.1) = ks := by rfl) (hdb : (x == ("__debug__" : Str)) = false := by decide)
    (hpl : ((backTo pos (starEach [] X.env)).any (·.1) || (backToKw pos (keywordEach kws X.env)).any (·.1.isNone)) = false := by rfl) :
    PE X (.Call (.Name x p) [] kws pos) (low (kx X bb) (aCallK asp ks.length g tk)) := by
  obtain ⟨f, fd, G, hm, hk, hb⟩ := F.ex
  refine ⟨fun pins s σ H QH I h => wpAny_Call_Name_kw (ld_glob I hg hm (PySem.W.callWith_KW0 (h₀ := X.base) I.ok.mod.kin hk hall ?_ hpl) hdb)⟩
  obtain ⟨τ, S, Q, R, so, q, k⟩ := h
  refine thn (hkw.run pos pins s σ H (fun zs H1 => ∃ es S1, StOk X.K H1 S1 ∧ Step H S H1 S1 ∧ RelAs X.K H1 S1 zs es ∧ es.length = ks.length ∧ asp (g [] es) S1 Q) I ⟨τ, S, _, R, so, q, fun zs H1 es S1 so1 st1 r1 q1 => ⟨es, S1, so1, st1, r1, q1⟩⟩) fun ws s2 z => ?_
  obtain ⟨zs, H2, I2, rz, es, S1, so1, st1, r1, hl, q1⟩ := z
  refine ⟨I2.kIn, ?_⟩
  rw [hks]
  have lz : zs.length = ks.length := r1.length.trans hl
  exact run_gk (us := []) (vs := []) (zs := zs) (g := g) (gV := g) G gd hr (hb s2 [] ws rfl (rz.length.symm.trans lz)) I2 (F.vals rfl lz .nil rz) ⟨g [] es, S1, Q, F.rels rfl lz .nil r1, so1, q1, fun d S' v H' so' st' r' q' => k v H' d S' so' (st1.trans st') r' q'⟩
/-- f(e, .., k = v, ..) -/
def aCallKn (asp : ASp) (n m : Nat) (g : List AV → List AV → List AV) (t tk : AA) : AE := fun τ S Q => t τ S fun ds S1 => ds.length = n ∧ tk τ S1 fun zs S2 => zs.length = m ∧ asp (g ds zs) S2 Q
theorem f_callK {k n : Nat} {x : Str} {ps ks : List Str} {asp : ASp} {g : {α : Type} → List α → List α → List α} {kws : List Keyword} {tk : AA} (F : FnK X.prog X.w X.K X.mg X.base k x ps asp n ks g) (gd : X.A.guards = some []) (hr : Room k X.A) (ha : PA X (e :: es) (lowA (kx X bb) t)) (hkw : PK X kws (lowA (kx X bb) tk)) (hg : Gl X x := by rfl)
    (hall : (backToKw pos (keywordEach kws X.env)).all (·.1.isSome) = true := by rfl) (hks : (backToKw pos (keywordEach kws X.env)).filterMap (·.1) = ks := by rfl) (hdb : (x == ("__debug__" : Str)) = false := by decide)
    (he : starEach (e :: es) X.env = (false, eval e X.env) :: starEach es X.env := by rfl) (hpl : ((backTo pos (starEach (e :: es) X.env)).any (·.1) || (backToKw pos (keywordEach kws X.env)).any (·.1.isNone)) = false := by rfl) :
    PE X (.Call (.Name x p) (e :: es) kws pos) (low (kx X bb) (aCallKn asp n ks.length g t tk)) := by
  obtain ⟨f, fd, G, hm, hk, hb⟩ := F.ex
  refine ⟨fun pins s σ H QH I h => wpAny_Call_Name_kw (ld_glob I hg hm (PySem.W.callWith_KW (h₀ := X.base) I.ok.mod.kin hk hall ?_ hpl he) hdb)⟩
  obtain ⟨τ, S, Q, R, so, q, k⟩ := h
  refine thn (ha.run pos pins s σ H (fun vs H1 => ∃ ds S1, StOk X.K H1 S1 ∧ Step H S H1 S1 ∧ RelAs X.K H1 S1 vs ds ∧ ds.length = n ∧ tk τ S1 fun zs S2 => zs.length = ks.length ∧ asp (g ds zs) S2 Q) I ⟨τ, S, _, R, so, q, fun vs H1 ds S1 so1 st1 r1 q1 => ⟨ds, S1, so1, st1, r1, q1⟩⟩) fun us s1 z => ?_
  obtain ⟨vs, H1, I1, rv, ds, S1, so1, st1, r1, hn, q1⟩ := z
  refine thn (hkw.run pos pins s1 σ H1 (fun zs H2 => ∃ es S2, StOk X.K H2 S2 ∧ Step H1 S1 H2 S2 ∧ RelAs X.K H2 S2 zs es ∧ es.length = ks.length ∧ asp (g ds es) S2 Q) I1 ⟨τ, S1, _, R.step st1, so1, q1, fun zs H2 es S2 so2 st2 r2 q2 => ⟨es, S2, so2, st2, r2, q2⟩⟩) fun ws s2 z => ?_
  obtain ⟨zs, H2, I2, rz, es, S2, so2, st2, r2, hl, q2⟩ := z
  refine ⟨I2.kIn, ?_⟩
  rw [hks]
  have lz : zs.length = ks.length := r2.length.trans hl
  have lv : vs.length = n := r1.length.trans hn
  exact run_gk (us := us) (vs := vs) (zs := zs) (g := g) (gV := g) G gd hr (hb s2 us ws (rv.length.symm.trans lv) (rz.length.symm.trans lz)) I2 (F.vals lv lz rv rz) ⟨g ds es, S2, Q, F.rels lv lz (r1.step st2) r2, so2, q2, fun d S' v H' so' st' r' q' => k v H' d S' so' ((st1.trans st2).trans st') r' q'⟩
end

/-! ### xs[lo:] = ys -/
section
variable {prog : Program} {w : World} {A : Around} {E : Value → Shared → Prop} {s : Shared}
set_option maxRecDepth 100000 in
theorem put_slice {l b sl : Addr} {items new : Array Value} {n n2 : Nat} {vl vu : Value} {lo hi : Option Int} {a c : Nat} {Q : Unit → Shared → Prop} (e : s.heap.get? l = some { cls := .type "list", data := .seq items n }) (e2 : s.heap.get? b = some { cls := .type "list", data := .seq new n2 }) (hne : l ≠ b)
    (hs : s.heap.IsSliceOf sl vl vu .none) (pl : IsPart vl lo) (pu : IsPart vu hi) (hb : sliceBounds lo hi none items.size = ((a : Int), (c : Int), 1)) (hac : a ≤ c) (hc : c ≤ items.size)
    (hsz : items.size + new.size ≤ sizeLine) (h : Q () { s with heap := s.heap.update l (Obj.mapSeq fun xs => xs.extract 0 a ++ new ++ xs.extract c xs.size) }) :
    wpAny (model prog w) A (setItem (.ref l) (.ref sl) (.ref b)) Q E s := by
  have isL : s.heap.IsList l items := PySem.IsL.isList e
  have isB : s.heap.IsList b new := PySem.IsL.isList e2
  obtain ⟨os, hos, hcs, hds⟩ := id hs
  have isS : s.TypeIs (.ref sl) "slice" := ⟨os, hos, hcs⟩
  have notSame : Builtin.List.listSameRef (.ref l) (.ref b) = false := by unfold Builtin.List.listSameRef; exact beq_eq_false_iff_ne.mpr hne
  have topN : (max (a : Int) (c : Int)).toNat = c := by omega
  have fits : ((fun xs : Array Value => xs.extract 0 a ++ new ++ xs.extract c xs.size) items).size ≤ sizeLine + 1 := by
    simp only [Array.size_append, Array.size_extract]
    omega
  unfold setItem
  try with_reducible refine wpAny_holding ?_
  first | refine wpAny_bind (wpAny_pure ?_) | skip
  refine wpAny_bind (wpAny_sequenceKey isL.typeIs (by decide) (wpAny_bind (wpAny_callSpecial?_slot (name := Str.ofString "__setitem__") isL.typeIs slot_list_setitem (wpAny_call_entry slot_list_setitem isL.typeIs entry_list_setitem ?_ (args_list_setitem _ _ _)))))
  show wpAny _ _ (Builtin.List.listSubscript? (.ref sl) >>= _) _ _ s
  refine wpAny_bind ?_
  unfold Builtin.List.listSubscript?
  refine wpAny_bind (wpAny_specialOf isS slice_no_index ?_)
  simp only [Option.isNone_none, if_true]
  refine wpAny_pure ?_
  show wpAny _ _ (typeOf (.ref sl) >>= _) _ _ s
  refine wpAny_bind (wpAny_typeOf isS ?_)
  first
    | rw [if_neg (by decide)]
    | refine PySem.W.KFB.if_not (by decide) ?_
  rw [listSliceParts_eq]
  refine wpAny_bind (wpAny_bind (wpAny_field hos hds (x := .none) rfl (wpAny_bind (wpAny_listPart .none ?_))))
  rw [if_neg (show ¬ ((rawPart none == rawInt 0) = true) from Bool.false_ne_true)]
  refine wpAny_bind (wpAny_field hos hds (x := vl) rfl (wpAny_bind (wpAny_listPart pl (wpAny_bind (wpAny_field hos hds (x := vu) rfl (wpAny_bind (wpAny_listPart pu (wpAny_pure ?_))))))))
  first
    | simp only [notSame, Bool.false_eq_true, if_false]
    | refine PySem.W.KFB.if_not notSame ?_
  refine wpAny_bind (m := Builtin.List.listAllItems (.ref b) "must assign iterable to extended slice") ?_
  unfold Builtin.List.listAllItems
  refine wpAny_bind (wpAny_typeOf isB.typeIs ?_)
  first
    | refine PySem.W.KFB.if_so (by decide) ?_
    | rw [if_pos (by decide)]
    | simp only [beq_self_eq_true, Bool.true_or, if_true]
  unfold Builtin.List.listItems
  refine wpAny_bind (wpAny_seqItems e2 rfl (wpAny_pure (wpAny_bind (wpAny_bind (wpAny_seqItems e rfl (wpAny_pure ?_))))))
  refine wpAny_bind (wpAny_of_eq ((sliceIndices_raw lo hi none items.size (by simp)).trans (congrArg (pure : Int × Int × Int → Sem (Int × Int × Int)) hb)) ?_)
  show wpAny _ _ (if ((1 : Int) == 1) = true then _ else _) _ _ s
  rw [if_pos (by decide)]
  refine wpAny_bind (wpAny_rule ?_)
  first
    | simp only [notLongL hsz, Bool.false_eq_true, if_false]
    | refine PySem.W.KFB.if_not (notLongL hsz) ?_
  first | refine wpAny_bind (wpAny_pure ?_) | skip
  show wpAny _ _ (updateSeq l (fun xs => xs.extract 0 ((a : Int)).toNat ++ new ++ xs.extract (max (a : Int) (c : Int)).toNat xs.size) >>= _) _ _ s
  rw [topN, Int.toNat_natCast]
  refine wpAny_bind (wpAny_updateSeq (hz := Nat.le_trans (Nat.le_add_right _ _) hsz) (_hz' := fits) e rfl (wpAny_bind (wpAny_letGo ?_)))
  first
    | exact wpAny_bind (wpAny_pure (wpAny_pure ⟨.none, rfl, wpAny_pure h⟩))
    | exact wpAny_pure ⟨.none, rfl, wpAny_pure h⟩
end
theorem bounds_from (i : Int) (n k : Nat) (h : (if i < 0 then i + n else i) = (k : Int)) (hk : k ≤ n) : sliceBounds (some i) none none n = ((k : Int), (n : Int), 1) := by
  simp only [sliceBounds, Option.getD_none, show (1 : Int) > 0 by decide, if_true, h]
  congr 1
  omega
section
variable {X : Cx} {o lo : Expr} {to tl : AE} {pos p2 : Pos}
/-- xs[lo:] = ys -/
def agCut (to tl : AE) : AG := fun d τ S Q => to τ S fun x S1 => aPart tl τ S1 fun o S2 => ∃ i, o = some i ∧ ∃ (l : Addr) (ds : List AV) (k : Nat) (es : List AV), x = .ref l ∧ S2 l = some (.lst ds) ∧ wstA S2 d = some es ∧ d ≠ .ref l ∧ (if i < 0 then i + ds.length else i) = (k : Int) ∧ k ≤ ds.length ∧ ds.length + es.length ≤ sizeLine ∧
  Q τ (updS S2 l (.lst (ds.take k ++ es)))
theorem g_cut (ho : PE X o (low (kx X bb) to)) (hl : PE X lo (low (kx X bb) tl))
    (ha : ∀ v, assign (.Subscript o (.Slice (some lo) none none p2) pos) X.env v = (do
      let ov ← holding [v] (eval o X.env)
      let iv ← holding [v, ov] (eval (.Slice (some lo) none none p2) X.env)
      standAt pos
      holding [v, ov, iv] (setItem ov iv v)
      release [iv, v, ov] []) := by intro _; rfl) : PG X (.Subscript o (.Slice (some lo) none none p2) pos) (lowG (kx X bb) (agCut to tl)) := by
  refine ⟨fun pins s σ H v u QH I r h => ?_⟩
  obtain ⟨d, τ, S, Q, rd, R, so, q, k⟩ := h
  rw [ha]
  refine wpAny_bind (wpAny_holding (thn (ho.run pins s σ H (fun vo H1 => ∃ x S1, StOk X.K H1 S1 ∧ Step H S H1 S1 ∧ RelA X.K H1 S1 vo x ∧ aPart tl τ S1 fun o S2 => ∃ i, o = some i ∧ ∃ (l : Addr) (ds : List AV) (k : Nat) (es : List AV), x = .ref l ∧ S2 l = some (.lst ds) ∧ wstA S2 d = some es ∧ d ≠ .ref l ∧ (if i < 0 then i + ds.length else i) = (k : Int) ∧ k ≤ ds.length ∧
    ds.length + es.length ≤ sizeLine ∧ Q τ (updS S2 l (.lst (ds.take k ++ es)))) I ⟨τ, S, _, R, so, q, fun vo H1 x S1 so1 st1 r1 q1 => ⟨x, S1, so1, st1, r1, q1⟩⟩) fun ov s1 z => ?_))
  obtain ⟨vo, H1, I1, ro, x, S1, so1, st1, r1, q1⟩ := z
  refine wpAny_bind (wpAny_holding (wpAny_Slice ?_))
  have part : PO X (some lo) (lowP (kx X bb) (aPart tl)) := o_some hl
  refine thn (part.run pins s1 σ H1 (fun o H2 => ∃ i S2, o = some i ∧ StOk X.K H2 S2 ∧ Step H1 S1 H2 S2 ∧ ∃ (l : Addr) (ds : List AV) (k : Nat) (es : List AV), x = .ref l ∧ S2 l = some (.lst ds) ∧ wstA S2 d = some es ∧ d ≠ .ref l ∧ (if i < 0 then i + ds.length else i) = (k : Int) ∧ k ≤ ds.length ∧
    ds.length + es.length ≤ sizeLine ∧ Q τ (updS S2 l (.lst (ds.take k ++ es)))) I1 ⟨τ, S1, fun o S2 => ∃ i, o = some i ∧ ∃ (l : Addr) (ds : List AV) (k : Nat) (es : List AV), x = .ref l ∧ S2 l = some (.lst ds) ∧ wstA S2 d = some es ∧ d ≠ .ref l ∧ (if i < 0 then i + ds.length else i) = (k : Int) ∧ k ≤ ds.length ∧
    ds.length + es.length ≤ sizeLine ∧ Q τ (updS S2 l (.lst (ds.take k ++ es))), R.step st1, so1, q1, fun o H2 S2 so2 st2 ⟨i, e, z⟩ => ⟨i, S2, e, so2, st2, z⟩⟩) fun vl s2 z => ?_
  obtain ⟨o2, H2, I2, pl, i, S2, rfl, so2, st2, l, ds, kk, es, rfl, hs, hes, hne, hk, hkl, hz, q2⟩ := z
  refine thn (po_none.run pins s2 σ H2 (fun o G => o = none ∧ G = H2) I2 ⟨rfl, rfl⟩) fun vu s3 z => ?_
  obtain ⟨o3, H3, I3, pu, rfl, rfl⟩ := z
  rw [evalPart_none]
  refine wpAny_pure ?_
  have I4 : Inv X pins σ H3 { s3 with heap := s3.heap.push { cls := .type "slice", data := .fields #[vl, vu, .none] } } := I3.kept (t' := s3.toks) fun b ob q => Heap.get?_push_of_some _ q
  refine wpAny_bind (wpAny_standAt (wpAny_bind (wpAny_holding ?_)))
  have rd2 := (rd.step st1).step st2
  obtain ⟨b, ws, rfl, hb, rb⟩ := rel_wstE so2 rd2 hes
  obtain rfl := rel_refE r1
  obtain rfl : ov = .ref l := ro
  obtain rfl : u = .ref b := r
  obtain ⟨vs, hl0, rl⟩ := so2 l _ hs
  have hne' : l ≠ b := by
    rintro rfl
    cases rd2 with
    | lst h n _ => rw [hs] at n; cases n
    | tup h n _ => cases hes
    | ref _ => exact hne rfl
    | rol _ _ _ => cases hes
    | tupK _ _ => cases hes
    | rolK _ _ => cases hes
  obtain ⟨z1, its, n1, ri, hli, e1⟩ := I4.lstM hl0
  obtain ⟨z2, its2, n2, ri2, hli2, e2⟩ := I4.lstM hb
  have lv := rl.length
  have lw := rb.length
  have sz : its.toArray.size = ds.length := by rw [List.size_toArray, ← hli, lv]
  obtain ⟨so3, st3⟩ := mutL so2 hs ((rl.take kk).app rb)
  refine put_slice (a := kk) (c := ds.length) e1 e2 hne' (Heap.IsSliceOf.new ..) pl pu (by rw [sz]; exact bounds_from i ds.length kk hk hkl) hkl (by rw [sz]; exact Nat.le_refl _) (by rw [sz, List.size_toArray]; omega) (wpAny_release ?_)
  refine ⟨σ, upd H3 l (.lst (vs.take kk ++ ws)), I4.lset (its' := its.take kk ++ its2) (t' := s3.toks) hl0 e1 ?_ ((ri.take kk).append ri2) ?_, k _ _ _ _ so3 ((st1.trans st2).trans st3) (R.step ((st1.trans st2).trans st3)) q2⟩
  · show its.toArray.extract 0 kk ++ its2.toArray ++ its.toArray.extract ds.length its.toArray.size = (its.take kk ++ its2).toArray
    rw [splice_eq, ← sz, List.size_toArray, List.drop_length, List.append_nil]
  · rw [List.length_append, List.length_take]
    omega
end
end L3

set_option Elab.async false
set_option linter.all false
set_option maxRecDepth 100000
set_option maxHeartbeats 2000000
set_option autoImplicit false
/-! L3I: what a generated text leans on: defs of the top, constants, stored results. -/
namespace L3
open PySem L2 PyProof.Rows
variable {bb : Birth}

/-- a def of the top as it stands -/
structure Def (K : PySem.W.Frag) (mg : Str → Option Value) (x : Str) (st : Stmt) (ps : List Str) : Prop where
  ex : ∃ (f : Addr) (fd : FuncData), L2.Fun K x x st f fd ∧ mg x = some (.ref f) ∧ Binds K fd ps []
theorem Def.of {K : PySem.W.Frag} {h : Heap} {mg : Str → Option Value} {x : Str} {st : Stmt} {ps : List Str} {f : Addr} {od an : Option Addr} {sl : Array (Option Value)} {oc kV doc pm cd ct : Value} (X : K.In h) (G : h.Ns mainGlobals mg)
    (a : PySem.W.nsIn K mainGlobals x = some (some (.ref f))) (l : K.lookup f = some ⟨oc, od, .func (PySem.W.fnOf x x (defArgs st) (defBody st) (defScope st) .none kV doc pm an cd ct), sl⟩) (c : PySem.W.codeIn K cd x = true) (k : PySem.W.keepIn K (.ref f) = true)
    (b : ∀ (kV doc pm : Value) (an : Option Addr) (cdv ct : Value) (us : List Value), us.length = ps.length → bindArgs (PySem.W.fnOf x x (defArgs st) (defBody st) (defScope st) .none kV doc pm an cdv ct) ⟨us, []⟩ = pure (ps.zip us)) : Def K mg x st ps :=
  ⟨f, _, fun_mk (st := st) l c k, PySem.W.mg_of X G a, (fun_mk (st := st) l c k).binds b⟩
/-- a def with its promise -/
structure FnX (P : Program) (w : World) (K : PySem.W.Frag) (mg : Str → Option Value) (base : Heap) (k : Nat) (x : Str) (st : Stmt) (ps : List Str) (asp : ASp) : Prop where
  ex : ∃ (f : Addr) (fd : FuncData), L2.Fun K x x st f fd ∧ FnG P w K mg base k f fd ps (spOf K asp) ∧ mg x = some (.ref f) ∧ Binds K fd ps []
section
variable {P : Program} {w : World} {K : PySem.W.Frag} {mg : Str → Option Value} {base : Heap} {k : Nat} {x : Str} {st : Stmt} {ps : List Str} {asp : ASp}
theorem FnX.f4 (F : FnX P w K mg base k x st ps asp) : Fn4 P w K mg base k x ps asp := let ⟨f, fd, G, h, hm, hb⟩ := F.ex; ⟨f, fd, h, hm, G.kp, hb⟩
theorem FnX.of (D : Def K mg x st ps) (h : ∀ f fd, L2.Fun K x x st f fd → FnG P w K mg base k f fd ps (spOf K asp)) : FnX P w K mg base k x st ps asp := let ⟨f, fd, G, hm, hb⟩ := D.ex; ⟨f, fd, G, h f fd G, hm, hb⟩
theorem FnX.kw (F : FnX P w K mg base k x st ps asp) (n : Nat) (ks : List Str) (g : {α : Type} → List α → List α → List α)
    (b : ∀ (kV doc pm : Value) (an : Option Addr) (cdv ct : Value) (us ws : List Value), us.length = n → ws.length = ks.length → bindArgs (PySem.W.fnOf x x (defArgs st) (defBody st) (defScope st) .none kV doc pm an cdv ct) ⟨us, ks.zip ws⟩ = pure (ps.zip (g us ws)))
    (vals : ∀ {vs : List V} {us : List Value} {zs : List V} {ws : List Value}, vs.length = n → zs.length = ks.length → Vals vs us → Vals zs ws → Vals (g vs zs) (g us ws))
    (rels : ∀ {H : Hp} {S : Store} {vs zs : List V} {ds es : List AV}, vs.length = n → zs.length = ks.length → RelAs K H S vs ds → RelAs K H S zs es → RelAs K H S (g vs zs) (g ds es)) : FnK P w K mg base k x ps asp n ks g := by
  obtain ⟨f, fd, F, G, hm, hb⟩ := F.ex
  have kp := F.kp
  obtain ⟨oc, od, kV, doc, pm, an, cdv, ct, osl, rfl, lk, hcd⟩ := F.ex
  exact ⟨⟨f, _, G, hm, kp, fun s us ws l1 l2 => .of_eq (b kV doc pm an cdv ct us ws l1 l2)⟩, vals, rels⟩
theorem fun_uniq {q : Str} {f : Addr} {fd fd' : FuncData} (F : L2.Fun K x q st f fd) (F' : L2.Fun K x q st f fd') : fd = fd' := by
  obtain ⟨oc, od, kV, doc, pm, an, cdv, ct, osl, e, lk, _⟩ := F.ex
  obtain ⟨oc', od', kV', doc', pm', an', cdv', ct', osl', e', lk', _⟩ := F'.ex
  rw [lk] at lk'
  have h := Option.some.inj lk'
  injection h with h1 h2 h3 h4
  injection h3
theorem FnX.law {fa : Addr} {pn : Str} (D : Def K mg x st [pn]) (hF : ∀ base, FnX P w K mg base k x st [pn] asp) (hmg : mg x = some (.ref fa))
    (b : ∀ (kV doc pm : Value) (an : Option Addr) (cdv ct : Value) (us : List Value), us.length = 1 → bindArgs (PySem.W.fnOf x x (defArgs st) (defBody st) (defScope st) .none kV doc pm an cdv ct) ⟨us, []⟩ = pure ([pn].zip us)) :
    ∃ fd : FuncData, (∀ (s : Shared) (u : Value), BindsTo s fd ⟨[u], []⟩ [(pn, u)]) ∧ ∀ base : Heap, K.In base → base.Ns mainGlobals mg → FnG P w K mg base k fa fd [pn] (spOf K asp) := by
  obtain ⟨f, fd, G, hm, hb⟩ := D.ex
  rw [hm] at hmg
  cases hmg
  refine ⟨fd, fun s u => ?_, fun base _ _ => ?_⟩
  · obtain ⟨oc, od, kV, doc, pm, an, cdv, ct, osl, rfl, lk, hcd⟩ := G.ex
    exact .of_eq (b kV doc pm an cdv ct [u] rfl)
  · obtain ⟨f', fd', G', h', hm', hb'⟩ := (hF base).ex
    rw [hm] at hm'
    cases hm'
    obtain rfl := fun_uniq G G'
    exact h'
/-- keywords alone, in the parameters' order -/
theorem FnX.kwAll (F : FnX P w K mg base k x st ps asp) (b : ∀ (kV doc pm : Value) (an : Option Addr) (cdv ct : Value) (us ws : List Value), us.length = 0 → ws.length = ps.length → bindArgs (PySem.W.fnOf x x (defArgs st) (defBody st) (defScope st) .none kV doc pm an cdv ct) ⟨us, ps.zip ws⟩ = pure (ps.zip ws)) :
    FnK P w K mg base k x ps asp 0 ps (fun _ zs => zs) := F.kw 0 ps (fun _ zs => zs) b (fun _ _ _ r => r) (fun _ _ _ r => r)
end
section
variable {X : Cx} {e a b c : Expr} {es : List Expr} {ta tb tc te : AE} {tt : AT} {t : AA} {pos p : Pos}
theorem e_gI {x : Str} {i : Int} (h : ∃ t, X.mg x = some (.int i t)) (hg : Gl X x := by rfl) (hd : (x == ("__debug__" : Str)) = false := by decide) : PE X (.Name x pos) (low (kx X bb) (aC (.int i))) := let ⟨t, h⟩ := h; e_gint h hg hd
theorem e_gS {x : Str} {i : Str} (h : ∃ t, X.mg x = some (.str i t)) (hg : Gl X x := by rfl) (hd : (x == ("__debug__" : Str)) = false := by decide) : PE X (.Name x pos) (low (kx X bb) (aC (.str i))) := let ⟨t, h⟩ := h; e_gstr h hg hd
theorem gI_of {K : PySem.W.Frag} {h : Heap} {mg : Str → Option Value} {x : Str} {i : Int} {t : Tok} (X : K.In h) (G : h.Ns mainGlobals mg) (a : PySem.W.nsIn K mainGlobals x = some (some (.int i t))) : ∃ t, mg x = some (.int i t) := ⟨t, PySem.W.mg_of X G a⟩
theorem gS_of {K : PySem.W.Frag} {h : Heap} {mg : Str → Option Value} {x : Str} {i : Str} {t : Tok} (X : K.In h) (G : h.Ns mainGlobals mg) (a : PySem.W.nsIn K mainGlobals x = some (some (.str i t))) : ∃ t, mg x = some (.str i t) := ⟨t, PySem.W.mg_of X G a⟩
/-- a loose whole number of the top -/
theorem gI_loose {p : Program} {lv : List (Str × PySem.W.WData)} {mg : Str → Option Value} {h : Heap} {x : Str} {i : Int} (hX : PySem.W.XL p lv mg h) (hm : (x, PySem.W.WData.int i) ∈ lv) : ∃ t, mg x = some (.int i t) := by
  obtain ⟨v, a, b⟩ := hX.2.val _ hm
  cases b
  exact ⟨_, a⟩
/-- xs + ys as a stored list -/
def aAddS (ta tb : AE) : AE := fun τ S Q => ta τ S fun x S1 => tb τ S1 fun y S2 => ∃ xs ys, wstA S2 x = some xs ∧ wstA S2 y = some ys ∧ xs.length + ys.length ≤ sizeLine ∧ ∀ l, S2 l = none → Q (.ref l) (updS S2 l (.lst (xs ++ ys)))
theorem putL {K : PySem.W.Frag} {H : Hp} {S : Store} {l : Addr} {ds : List AV} {vs : List V} (so : StOk K H S) (h : H l = none) (r : RelAs K H S vs ds) : StOk K (upd H l (.lst vs)) (updS S l (.lst ds)) ∧ Step H S (upd H l (.lst vs)) (updS S l (.lst ds)) := by
  have st := step_put (o := .lst vs) (u := .lst ds) so h
  exact ⟨stok_put (u := .lst ds) so h ⟨vs, upd_same, r.step st⟩, st⟩
theorem e_addS (ha : PE X a (low (kx X bb) ta)) (hb : PE X b (low (kx X bb) tb)) : PE X (.BinOp a .Add b pos) (low (kx X bb) (aAddS ta tb)) := (pe_op op_cat ha hb).weak fun σ H QH ⟨τ, S, Q, R, so, q, k⟩ =>
  ⟨τ, S, _, R, so, q, fun v H1 d S1 so1 st1 r1 q1 => ⟨τ, S1, _, R.step st1, so1, q1, fun w H2 e S2 so2 st2 r2 ⟨xs, ys, ex, ey, hz, q2⟩ => by
    obtain ⟨a, vs, rfl, ha, ra⟩ := rel_wstE so2 (r1.step st2) ex
    obtain ⟨b, ws, rfl, hb, rb⟩ := rel_wstE so2 r2 ey
    refine ⟨a, b, vs, ws, rfl, rfl, ha, hb, by rw [ra.length, rb.length]; exact hz, fun l hl => ?_⟩
    obtain ⟨so3, st3⟩ := putL so2 hl (ra.app rb)
    exact k _ _ _ _ so3 ((st1.trans st2).trans st3) (.ref l) (q2 l (so2.fresh hl))⟩⟩
/-- a comprehension's list as a stored one -/
def aLcS (ai : AI) (j : Nat) (tt : AT) (te : AE) (vs : List Nat) : AE := fun τ S Q => ai τ S fun xs G S1 => ∀ D, S1 D = none → ∃ I : Nat → List AV → Store → Prop, I 0 [] (updS S1 D .hid) ∧
  (∀ (i : Nat) x acc S2, xs[i]? = some x → I i acc S2 → G S2 ∧ tt ((wipeA τ vs).set j (some x)) S2 fun b S3 => if b = true then te ((wipeA τ vs).set j (some x)) S3 fun y S4 => acc.length < sizeLine ∧ I (i + 1) (acc ++ [y]) S4 else I (i + 1) acc S3) ∧
  (∀ acc S2, I xs.length acc S2 → G S2 ∧ Q (.ref D) (updS S2 D (.lst acc)))
theorem lcS_low {kb : KB} {ai : AI} {tt : AT} {te : AE} {vs : List Nat} {j : Nat} (hj : j ∈ vs) : ∀ σ H QH, low kb (aLcS ai j tt te vs) σ H QH → tLc (lowI kb ai) (gName j) (lowT kb tt) (low kb te) vs σ H QH := by
  intro σ H QH ⟨τ, S, Q, R, so, q, k⟩
  refine ⟨τ, S, _, R, so, q, fun J H1 xs G S1 so1 st1 it hI D hD => ?_⟩
  obtain ⟨I, i0, hstep, hend⟩ := hI D (so1.fresh hD)
  have nD : S1 D = none := so1.fresh hD
  have stD : Step H1 S1 (upd H1 D (.lst [])) (updS S1 D .hid) := step_put so1 hD
  have soD : StOk kb.K (upd H1 D (.lst [])) (updS S1 D .hid) := stok_put (u := .hid) so1 hD ⟨_, upd_same⟩
  refine ⟨fun i m H' => ∃ acc S2 ws, I i acc S2 ∧ i + m = xs.length ∧ StOk kb.K H' S2 ∧ S2 D = some .hid ∧ H' D = some (.lst ws) ∧ RelAs kb.K H' S2 ws acc ∧
    (∀ a o, a ≠ D → S1 a = none → H1 a = some o → H' a = some o ∧ S2 a = none) ∧ (∀ a, S1 a = some .hid → H' a = H1 a ∧ S2 a = some .hid), ⟨xs.length, [], _, [], i0, by omega, soD, updS_same, upd_same, .nil, fun a o _ n h => stD.old a o n h, fun a h => stD.hid a h⟩, ?_⟩
  intro i m H2 ⟨acc, S2, ws, w2, hm, so2, hh2, hD2, r2, old2, hid2⟩
  have st2 : Step H1 S1 H2 S2 := ⟨fun a o n h => old2 a o (ne_of_none h hD) n h, hid2⟩
  by_cases hi : i < xs.length
  · right
    have hx : xs[i]? = some xs[i] := List.getElem?_eq_getElem hi
    obtain ⟨hG, hq⟩ := hstep i _ acc S2 hx w2
    obtain ⟨hgo, hy⟩ := (it H2 S2 so2 st2 hG).1 i _ hx
    refine ⟨hgo, _, fun H' h => h, fun v H3 hv => ?_⟩
    obtain ⟨so3, st3, r3⟩ := hy v H3 hv
    refine ⟨by rw [wipe_set hj]; exact wipe_wipe σ vs vs fun _ h => h, ?_⟩
    have R3 : Rp kb H3 S2 ((L2.wipe σ vs).set j (some v)) ((wipeA τ vs).set j (some xs[i])) := (((R.step st1).step st2).step st3).wipe vs |>.set r3 j
    have keep : ∀ {H4 : Hp} {S4 : Store}, Step H2 S2 H4 S4 → H4 D = some (.lst ws) ∧ S4 D = some .hid ∧ RelAs kb.K H4 S4 ws acc ∧ (∀ a o, a ≠ D → S1 a = none → H1 a = some o → H4 a = some o ∧ S4 a = none) ∧ (∀ a, S1 a = some .hid → H4 a = H1 a ∧ S4 a = some .hid) := by
      intro H4 S4 st
      obtain ⟨e1, e2⟩ := st.hid D hh2
      exact ⟨e1.trans hD2, e2, r2.step st, fun a o ne n h => let ⟨h1, n1⟩ := old2 a o ne n h; st.old a o n1 h1, fun a h => let ⟨h1, n1⟩ := hid2 a h; let ⟨h3, n3⟩ := st.hid a n1; ⟨h3.trans h1, n3⟩⟩
    refine ⟨_, S2, _, R3, so3, hq, fun b H4 S4 so4 st4 q4 => ?_⟩
    cases b with
    | false =>
      rw [if_neg Bool.false_ne_true] at q4 ⊢
      obtain ⟨e1, e2, e3, e4, e5⟩ := keep (st3.trans st4)
      exact ⟨m - 1, by omega, acc, S4, ws, q4, by omega, so4, e2, e1, e3, e4, e5⟩
    | true =>
      rw [if_pos rfl] at q4 ⊢
      refine ⟨_, S4, _, R3.step st4, so4, q4, fun y H5 dy S5 so5 st5 r5 ⟨hz, w5⟩ => ?_⟩
      obtain ⟨e1, e2, e3, e4, e5⟩ := keep ((st3.trans st4).trans st5)
      refine ⟨ws, e1, by rw [r2.length]; exact hz, m - 1, by omega, acc ++ [dy], S5, ws ++ [y], w5, by omega, ?_⟩
      have grow : Old H5 S5 (upd H5 D (.lst (ws ++ [y]))) S5 := fun a o n h => by
        have ne : a ≠ D := by rintro rfl; rw [e2] at n; cases n
        exact ⟨by rw [upd_ne ne]; exact h, n⟩
      refine ⟨fun a o e => ?_, e2, upd_same, (e3.app (.cons r5 .nil)).stepO grow, fun a o ne n h => by rw [upd_ne ne]; exact e4 a o ne n h, fun a h => ?_⟩
      · by_cases z : a = D
        · subst z
          rw [e2] at e
          cases e
          exact ⟨_, upd_same⟩
        · exact (so5 a o e).stepO grow (upd_ne z)
      · have z : a ≠ D := by rintro rfl; rw [nD] at h; cases h
        rw [upd_ne z]
        exact e5 a h
  · left
    have e : i = xs.length := by omega
    subst e
    obtain ⟨hG, hq⟩ := hend acc S2 w2
    have more : Old H2 S2 H2 (updS S2 D (.lst acc)) := fun a o n h => ⟨h, by
      have ne : a ≠ D := by rintro rfl; rw [hh2] at n; cases n
      rw [updS_ne ne]
      exact n⟩
    refine ⟨(it H2 S2 so2 st2 hG).2, k _ H2 _ (updS S2 D (.lst acc)) (fun a o e => ?_) (st1.trans ⟨fun a o n h => ?_, fun a h => ?_⟩) (.ref D) hq⟩
    · by_cases z : a = D
      · subst z
        rw [updS_same] at e
        cases e
        exact ⟨ws, hD2, r2.stepO more⟩
      · rw [updS_ne z] at e
        exact (so2 a o e).stepO more rfl
    · obtain ⟨h1, n1⟩ := st2.old a o n h
      exact ⟨h1, (more a o n1 h1).2⟩
    · obtain ⟨h1, n1⟩ := st2.hid a h
      have ne : a ≠ D := by rintro rfl; rw [nD] at h; cases h
      exact ⟨h1, by rw [updS_ne ne]; exact n1⟩
section
variable {elt tg iter : Expr} {ifs : List Expr} {scope : Scope} {own : List (Str × Nat)} {spos : Pos} {ai : AI} {j : Nat}
theorem s_setLcS {y : Str} {py : Pos} (i : Nat) (j : Nat) (own : List (Str × Nat)) (hc : X.calm = true) (hN : X.N.Nodup) (hi : PI X tg iter (lowI (kx X bb) ai)) (ok : BlkOk X.N X.env.scope scope own)
    (hg : ∀ (s : Shared) (H : Hp) (C : Addr) (cl : List (Str × Addr)) (fp : List Addr), PG (X.blk s H scope (compEnvC scope cl C X.env) fp) tg (gName j))
    (ht : ∀ (s : Shared) (H : Hp) (C : Addr) (cl : List (Str × Addr)) (fp : List Addr), PTs (X.blk s H scope (compEnvC scope cl C X.env) fp) ifs (lowT (kx X bb) tt))
    (he : ∀ (s : Shared) (H : Hp) (C : Addr) (cl : List (Str × Addr)) (fp : List Addr), PE (X.blk s H scope (compEnvC scope cl C X.env) fp) elt (low (kx X bb) te))
    (hsw : swapsWith (.ListComp elt [⟨tg, iter, ifs, 0⟩] scope pos) (some (.Name y py)) spos.line X.env = pure true := by exact sw_true rfl rfl rfl (by decide +kernel))
    (hy : X.N[i]? = some y := by rfl) (hyl : X.env.scope.names.lookup y = some .local := by rfl)
    (hj : j ∈ own.map (·.2) := by decide) (hs : ∀ x, foldedSetIterable iter X.env x = pure x := by intro _; rfl) : PS X (.Assign [.Name y py] (.ListComp elt [⟨tg, iter, ifs, 0⟩] scope pos) spos) (lowS (kx X bb) (aAsg (aLcS ai j tt te (own.map (·.2))) (agName i))) :=
  (ps_setLc (own := own) hc hN hy hyl hsw hi ok hg ht he hs).weak fun D σ H ⟨τ, S, DA, R, so, q, k⟩ => lcS_low hj σ H _ ⟨τ, S, _, R, so, q, fun v H' d S' so' st' r' q' => k.nx _ H' _ S' so' st' ((R.step st').set r' i) q'⟩
end
end
end L3

set_option Elab.async false
set_option linter.all false
set_option maxRecDepth 100000
set_option maxHeartbeats 1000000
set_option autoImplicit false
/-! L3J: one tactic that reads readings. -/
namespace L3
open PySem L2
variable {bb : Birth}
theorem aVar_z {d : AV} {τ : ASt} {S : Store} {Q : AK} : aVar 0 (some d :: τ) S Q = Q d S :=
  propext ⟨fun ⟨e, h, q⟩ => by cases h; exact q, fun q => ⟨d, rfl, q⟩⟩
theorem aVar_s {i : Nat} {o : Option AV} {τ : ASt} {S : Store} {Q : AK} : aVar (i + 1) (o :: τ) S Q = aVar i τ S Q := rfl
theorem aAug_z {ar : AV → AV → Store → Ans} {i : Nat} {ta : AE} {D : AEnds} {τ : ASt} {S : Store} {x : AV} (h : τ[i]? = some (some x)) :
    aAug ar i ta D τ S = ta τ S fun y S1 => (ar x y S1).ok ∧ D.nx (τ.set i (some (ar x y S1).v)) S1 :=
  propext ⟨fun ⟨e, h', q⟩ => by rw [h] at h'; cases h'; exact q, fun q => ⟨x, h, q⟩⟩
theorem ex_bl {b : Bool} {P : Bool → Prop} : (∃ k, AV.bl b = .bl k ∧ P k) = P b := propext ⟨fun ⟨k, e, p⟩ => by cases e; exact p, fun p => ⟨b, rfl, p⟩⟩
theorem ex_int {b : Int} {P : Int → Prop} : (∃ k, AV.int b = .int k ∧ P k) = P b := propext ⟨fun ⟨k, e, p⟩ => by cases e; exact p, fun p => ⟨b, rfl, p⟩⟩
theorem ex_str {b : Str} {P : Str → Prop} : (∃ k, AV.str b = .str k ∧ P k) = P b := propext ⟨fun ⟨k, e, p⟩ => by cases e; exact p, fun p => ⟨b, rfl, p⟩⟩
theorem ex_tup {b : List AV} {P : List AV → Prop} : (∃ k, AV.tup b = .tup k ∧ P k) = P b := propext ⟨fun ⟨k, e, p⟩ => by cases e; exact p, fun p => ⟨b, rfl, p⟩⟩
theorem ex_eq {α : Type} {b : α} {P : α → Prop} : (∃ k, b = k ∧ P k) = P b := propext ⟨fun ⟨k, e, p⟩ => by cases e; exact p, fun p => ⟨b, rfl, p⟩⟩
theorem ex_cons {x : AV} {xs : List AV} {P : AV → List AV → Prop} : (∃ d es, x :: xs = d :: es ∧ P d es) = P x xs := propext ⟨fun ⟨d, es, e, p⟩ => by cases e; exact p, fun p => ⟨x, xs, rfl, p⟩⟩
theorem ex_pair {x y : AV} {P : AV → AV → Prop} : (∃ a b, [x, y] = [a, b] ∧ P a b) = P x y := propext ⟨fun ⟨d, es, e, p⟩ => by cases e; exact p, fun p => ⟨x, y, rfl, p⟩⟩
theorem ex_one1 {x : AV} {P : AV → Prop} : (∃ a, [x] = [a] ∧ P a) = P x := propext ⟨fun ⟨d, e, p⟩ => by cases e; exact p, fun p => ⟨x, rfl, p⟩⟩
theorem ex_one_int {x : Int} {P : Int → Prop} : (∃ a, [AV.int x] = [.int a] ∧ P a) = P x := propext ⟨fun ⟨d, e, p⟩ => by cases e; exact p, fun p => ⟨x, rfl, p⟩⟩
theorem not_tt {P Q : Prop} : (if (!true) = true then P else Q) = Q := rfl
theorem and_tt {P : Prop} : (True ∧ P) = P := propext ⟨fun h => h.2, fun h => ⟨trivial, h⟩⟩
theorem if_tt {P Q : Prop} : (if true = true then P else Q) = P := rfl
theorem if_ff {P Q : Prop} : (if false = true then P else Q) = Q := rfl
theorem if_true_eq {P : Prop} : (True → P) = P := propext ⟨fun h => h trivial, fun h _ => h⟩
theorem eqA_ii {i j : Int} {S : Store} : eqA (.int i) (.int j) S = ⟨True, .bl (decide (i = j))⟩ := rfl
theorem eqA_ss {i j : Str} {S : Store} : eqA (.str i) (.str j) S = ⟨True, .bl (decide (i = j))⟩ := rfl
theorem neA_ii {i j : Int} {S : Store} : neA (.int i) (.int j) S = ⟨True, .bl (!decide (i = j))⟩ := rfl
theorem neA_ss {i j : Str} {S : Store} : neA (.str i) (.str j) S = ⟨True, .bl (!decide (i = j))⟩ := rfl
theorem ltA_ii {i j : Int} {S : Store} : ltA (.int i) (.int j) S = ⟨True, .bl (decide (i < j))⟩ := rfl
theorem ltA_ss {i j : Str} {S : Store} : ltA (.str i) (.str j) S = ⟨True, .bl (decide (i.cps.toList < j.cps.toList))⟩ := rfl
theorem leA_ii {i j : Int} {S : Store} : leA (.int i) (.int j) S = ⟨True, .bl (decide (i ≤ j))⟩ := rfl
theorem leA_ss {i j : Str} {S : Store} : leA (.str i) (.str j) S = ⟨True, .bl (!decide (j.cps.toList < i.cps.toList))⟩ := rfl
theorem gtA_ii {i j : Int} {S : Store} : gtA (.int i) (.int j) S = ⟨True, .bl (decide (j < i))⟩ := rfl
theorem gtA_ss {i j : Str} {S : Store} : gtA (.str i) (.str j) S = ⟨True, .bl (decide (j.cps.toList < i.cps.toList))⟩ := rfl
theorem geA_ii {i j : Int} {S : Store} : geA (.int i) (.int j) S = ⟨True, .bl (decide (j ≤ i))⟩ := rfl
theorem geA_ss {i j : Str} {S : Store} : geA (.str i) (.str j) S = ⟨True, .bl (!decide (i.cps.toList < j.cps.toList))⟩ := rfl
theorem subA_ii {i j : Int} {S : Store} : subA (.int i) (.int j) S = ⟨True, .int (i - j)⟩ := rfl
theorem mulA_ii {i j : Int} {S : Store} : mulA (.int i) (.int j) S = ⟨CMulB i j, .int (i * j)⟩ := rfl
theorem modA_ii {i j : Int} {S : Store} : modA (.int i) (.int j) S = ⟨0 < j, .int (i % j)⟩ := rfl
theorem fdivA_ii {i j : Int} {S : Store} : fdivA (.int i) (.int j) S = ⟨CDivW i j, .int (i / j)⟩ := rfl
theorem powA_ii {i j : Int} {S : Store} : powA (.int i) (.int j) S = ⟨CPowB i j, .int (i ^ j.toNat)⟩ := rfl
theorem addA_ii {i j : Int} {S : Store} : addA (.int i) (.int j) S = ⟨True, .int (i + j)⟩ := rfl
theorem addA_ss {i j : Str} {S : Store} : addA (.str i) (.str j) S = ⟨i.length + j.length ≤ sizeLine, .str (i ++ j)⟩ := rfl
theorem addA_tt {i j : List AV} {S : Store} : addA (.tup i) (.tup j) S = ⟨i.length + j.length ≤ sizeLine, .tup (i ++ j)⟩ := rfl
theorem addA_ll {i j : List AV} {S : Store} : addA (.lst i) (.lst j) S = ⟨i.length + j.length ≤ sizeLine, .lst (i ++ j)⟩ := rfl
theorem intA_ii {C : Int → Int → Prop} {g : Int → Int → Int} {i j : Int} {S : Store} : intA C g (.int i) (.int j) S = ⟨C i j, .int (g i j)⟩ := rfl
theorem int2A_ii {g : Int → Int → Int} {i j : Int} {S : Store} : int2A g (.int i) (.int j) S = ⟨True, .int (g i j)⟩ := rfl
theorem negA_i {i : Int} {S : Store} : negA (.int i) S = ⟨True, .int (-i)⟩ := rfl
theorem absA_i {i : Int} {S : Store} : absA (.int i) S = ⟨True, .int (if i < 0 then -i else i)⟩ := rfl
theorem toIntA_i {i : Int} {S : Store} : toIntA (.int i) S = ⟨True, .int i⟩ := rfl
theorem toIntA_b {i : Bool} {S : Store} : toIntA (.bl i) S = ⟨True, .int (if i then 1 else 0)⟩ := rfl
theorem seqv {d : AV} {S : Store} (h : flatA d = true) : derefA S d = d := by
  cases d <;> first | rfl | (cases h; done)
theorem eqA_s {d : AV} {S : Store} {w : Str} (h : flatA d = true) (hs : SeqAt.shaped (toD d) = true) (hw : SeqAt.shaped (.str w) = true) : (eqA d (.str w) S).ok ∧ (eqA d (.str w) S).v = .bl (match d with | .str z => decide (z = w) | _ => false) := by
  have hd : okD S d := ⟨by rw [seqv h]; exact h, by unfold datA; rw [seqv h]; exact hs⟩
  have hk : okD S (.str w) := ⟨rfl, hw⟩
  have e : datA S d = toD d := by unfold datA; rw [seqv h]
  cases d with
  | str z => exact ⟨trivial, rfl⟩
  | ref _ => cases h
  | ty _ => cases h
  | non => exact ⟨⟨hd, hk⟩, by show AV.bl (PyData.eqv (toD .non) (.str w)) = _; rw [show PyData.eqv (toD .non) (.str w) = false by unfold toD PyData.eqv; rfl]⟩
  | bl b => exact ⟨⟨hd, hk⟩, by show AV.bl (PyData.eqv (toD (.bl b)) (.str w)) = _; rw [show PyData.eqv (toD (.bl b)) (.str w) = false by unfold toD PyData.eqv; rfl]⟩
  | int b => exact ⟨⟨hd, hk⟩, by show AV.bl (PyData.eqv (toD (.int b)) (.str w)) = _; rw [show PyData.eqv (toD (.int b)) (.str w) = false by unfold toD PyData.eqv; rfl]⟩
  | tup b => exact ⟨⟨hd, hk⟩, by show AV.bl (PyData.eqv (toD (.tup b)) (.str w)) = _; rw [show PyData.eqv (toD (.tup b)) (.str w) = false by unfold toD PyData.eqv; rfl]⟩
  | lst b => exact ⟨⟨hd, hk⟩, by show AV.bl (PyData.eqv (toD (.lst b)) (.str w)) = _; rw [show PyData.eqv (toD (.lst b)) (.str w) = false by unfold toD PyData.eqv; rfl]⟩
  | rol b => exact ⟨⟨hd, hk⟩, by show AV.bl (PyData.eqv (toD (.rol b)) (.str w)) = _; rw [show PyData.eqv (toD (.rol b)) (.str w) = false by unfold toD PyData.eqv; rfl]⟩
/-- a choice by a Bool -/
def bc (b : Bool) (P Q : Prop) : Prop := match b with
  | true => P
  | false => Q
theorem ite_bc {b : Bool} {i : Decidable (b = true)} {P Q : Prop} : (@ite Prop (b = true) i P Q) = bc b P Q := by
  cases b with
  | true => exact if_pos rfl
  | false => exact if_neg Bool.false_ne_true
theorem bc_t {P Q : Prop} : bc true P Q = P := rfl
theorem bc_f {P Q : Prop} : bc false P Q = Q := rfl
theorem isiA_non  {n : String} {S : Store} : isiA (.non) (.ty n) S = ⟨(["NoneType", "bool", "int", "str", "tuple", "list", "dict"].contains "NoneType" && ["bool", "int", "str", "tuple", "list", "dict"].contains n) = true, .bl (isiB "NoneType" n)⟩ := rfl
theorem isiA_bl {b : Bool} {n : String} {S : Store} : isiA (.bl b) (.ty n) S = ⟨(["NoneType", "bool", "int", "str", "tuple", "list", "dict"].contains "bool" && ["bool", "int", "str", "tuple", "list", "dict"].contains n) = true, .bl (isiB "bool" n)⟩ := rfl
theorem isiA_int {b : Int} {n : String} {S : Store} : isiA (.int b) (.ty n) S = ⟨(["NoneType", "bool", "int", "str", "tuple", "list", "dict"].contains "int" && ["bool", "int", "str", "tuple", "list", "dict"].contains n) = true, .bl (isiB "int" n)⟩ := rfl
theorem isiA_str {b : Str} {n : String} {S : Store} : isiA (.str b) (.ty n) S = ⟨(["NoneType", "bool", "int", "str", "tuple", "list", "dict"].contains "str" && ["bool", "int", "str", "tuple", "list", "dict"].contains n) = true, .bl (isiB "str" n)⟩ := rfl
theorem isiA_tup {b : List AV} {n : String} {S : Store} : isiA (.tup b) (.ty n) S = ⟨(["NoneType", "bool", "int", "str", "tuple", "list", "dict"].contains "tuple" && ["bool", "int", "str", "tuple", "list", "dict"].contains n) = true, .bl (isiB "tuple" n)⟩ := rfl
theorem isiA_lst {b : List AV} {n : String} {S : Store} : isiA (.lst b) (.ty n) S = ⟨(["NoneType", "bool", "int", "str", "tuple", "list", "dict"].contains "list" && ["bool", "int", "str", "tuple", "list", "dict"].contains n) = true, .bl (isiB "list" n)⟩ := rfl
theorem isiA_rol {b : List AV} {n : String} {S : Store} : isiA (.rol b) (.ty n) S = ⟨(["NoneType", "bool", "int", "str", "tuple", "list", "dict"].contains "list" && ["bool", "int", "str", "tuple", "list", "dict"].contains n) = true, .bl (isiB "list" n)⟩ := rfl
theorem lenA_str {b : Str} {S : Store} : lenA (.str b) S = ⟨b.length ≤ sizeLine, .int b.length⟩ := rfl
theorem lenA_tup {b : List AV} {S : Store} : lenA (.tup b) S = ⟨True, .int b.length⟩ := rfl
theorem lenA_lst {b : List AV} {S : Store} : lenA (.lst b) S = ⟨True, .int b.length⟩ := rfl
theorem lenA_rol {b : List AV} {S : Store} : lenA (.rol b) S = ⟨True, .int b.length⟩ := rfl
theorem lenA_ref {l : Addr} {b : List AV} {S : Store} (h : S l = some (.lst b)) : lenA (.ref l) S = ⟨True, .int b.length⟩ := by
  show (match lstA S (.ref l) with | some xs => (⟨True, .int xs.length⟩ : Ans) | none => badA) = _
  rw [lstA_ref h]
theorem truA_bl {b : Bool} {S : Store} : truA S (.bl b) = b := rfl
theorem truOk_bl {b : Bool} {S : Store} : truOk S (.bl b) = True := rfl
theorem truA_int {b : Int} {S : Store} : truA S (.int b) = (b != 0) := rfl
theorem truOk_int {b : Int} {S : Store} : truOk S (.int b) = True := rfl
theorem truA_lst {b : List AV} {S : Store} : truA S (.lst b) = !b.isEmpty := rfl
theorem truOk_lst {b : List AV} {S : Store} : truOk S (.lst b) = True := rfl
theorem truA_tup {b : List AV} {S : Store} : truA S (.tup b) = !b.isEmpty := rfl
theorem truOk_tup {b : List AV} {S : Store} : truOk S (.tup b) = True := rfl
theorem truA_ref {l : Addr} {b : List AV} {S : Store} (h : S l = some (.lst b)) : truA S (.ref l) = !b.isEmpty := by
  show (match S l with | some (.lst xs) => !xs.isEmpty | some (.dK xs) => !xs.isEmpty | _ => false) = _
  rw [h]
theorem truOk_ref {l : Addr} {b : List AV} {S : Store} (h : S l = some (.lst b)) : truOk S (.ref l) = True := by
  show (match S l with | some (.lst xs) => True | some (.dK xs) => True | _ => False) = _
  rw [h]
theorem truA_refU {l : Addr} {b : List AV} {S : Store} : truA (updS S l (.lst b)) (.ref l) = !b.isEmpty := truA_ref updS_same
theorem truOk_refU {l : Addr} {b : List AV} {S : Store} : truOk (updS S l (.lst b)) (.ref l) = True := truOk_ref updS_same
theorem ans_tt {p : Prop} {v w : AV} (h : p) (e : v = w) : (⟨p, v⟩ : Ans) = ⟨True, w⟩ := by subst e; rw [eq_true h]
def isTup : AV → Bool
  | .tup _ => true
  | _ => false
theorem isi_T {d : AV} {S : Store} (h : flatA d = true) : isiA d (.ty "tuple") S = ⟨True, .bl (isTup d)⟩ := by
  cases d <;> first | (cases h; done) | skip
  all_goals (simp only [isiA_non, isiA_bl, isiA_int, isiA_str, isiA_tup, isiA_lst, isiA_rol, isTup]; exact ans_tt (by decide +kernel) (congrArg AV.bl (by decide +kernel)))
theorem isi_S {d : AV} {S : Store} (h : flatA d = true) : isiA d (.ty "str") S = ⟨True, .bl (isStrA d)⟩ := by
  cases d <;> first | (cases h; done) | skip
  all_goals (simp only [isiA_non, isiA_bl, isiA_int, isiA_str, isiA_tup, isiA_lst, isiA_rol, isStrA]; exact ans_tt (by decide +kernel) (congrArg AV.bl (by decide +kernel)))
/-- a comprehension over a text's signs -/
theorem lc_sg {i j : Nat} {te : AE} {vs : List Nat} {τ : ASt} {S : Store} {Q : AK} {z : Str} (f : Nat → Bool) (hz : τ[i]? = some (some (.str z))) (hl : z.length ≤ sizeLine)
    (hte : ∀ c S2 (Qe : AK), c ∈ z.cps.toList → Qe (.bl (f c)) S2 → te ((wipeA τ vs).set j (some (.str ⟨#[c]⟩))) S2 Qe) (q : Q (.lst (z.cps.toList.map fun c => .bl (f c))) S) : aLc (aiStr (aVar i)) j aYes te vs τ S Q := by
  refine lc_map ⟨_, hz, z, rfl, ?_, ?_⟩ fun Q1 Q2 h ⟨d, e, x, e2, q1⟩ => ⟨d, e, x, e2, h _ _ _ q1⟩
  · unfold signsA; rw [List.length_map, Array.length_toList]; exact hl
  refine ⟨fun x => match x with | .str y => .bl (f (y.cps.toList.headD 0)) | x => x, fun _ _ => trivial, trivial, fun k x S2 hx => ?_, ?_⟩
  · have hm := List.mem_of_getElem? hx
    obtain ⟨c, hc, rfl⟩ := List.mem_map.mp hm
    exact ⟨fun Qb h => h, fun Qe h => hte c S2 Qe hc h⟩
  · have e : (signsA z).map (fun x : AV => match x with | .str y => AV.bl (f (y.cps.toList.headD 0)) | x => x) = z.cps.toList.map fun c => .bl (f c) := by
      unfold signsA
      rw [List.map_map]
      rfl
    rw [e]
    exact q
theorem lc_sg' {ta : AE} {j : Nat} {te : AE} {vs : List Nat} {τ : ASt} {S : Store} {Q : AK} {z : Str} (f : Nat → Bool) (hz : ∀ Q', Q' (.str z) S → ta τ S Q') (hm : ∀ (Q1 Q2 : AK), (∀ x S1, Q1 x S1 → Q2 x S1) → ta τ S Q1 → ta τ S Q2) (hl : z.length ≤ sizeLine)
    (hte : ∀ c S2 (Qe : AK), c ∈ z.cps.toList → Qe (.bl (f c)) S2 → te ((wipeA τ vs).set j (some (.str ⟨#[c]⟩))) S2 Qe) (q : Q (.lst (z.cps.toList.map fun c => .bl (f c))) S) : aLc (aiStr ta) j aYes te vs τ S Q := by
  refine lc_map (hz _ ⟨z, rfl, ?_, ?_⟩) fun Q1 Q2 h h1 => hm _ _ (fun x S1 ⟨y, e, q1⟩ => ⟨y, e, h _ _ _ q1⟩) h1
  · unfold signsA; rw [List.length_map, Array.length_toList]; exact hl
  refine ⟨fun x => match x with | .str y => .bl (f (y.cps.toList.headD 0)) | x => x, fun _ _ => trivial, trivial, fun k x S2 hx => ?_, ?_⟩
  · have hm := List.mem_of_getElem? hx
    obtain ⟨c, hc, rfl⟩ := List.mem_map.mp hm
    exact ⟨fun Qb h => h, fun Qe h => hte c S2 Qe hc h⟩
  · have e : (signsA z).map (fun x : AV => match x with | .str y => AV.bl (f (y.cps.toList.headD 0)) | x => x) = z.cps.toList.map fun c => .bl (f c) := by
      unfold signsA
      rw [List.map_map]
      rfl
    rw [e]
    exact q
/-- a comprehension over a tuple of a variable -/
theorem lc_tp {i j : Nat} {te : AE} {vs : List Nat} {τ : ASt} {S : Store} {Q : AK} {xs : List AV} (f : AV → AV) (hz : τ[i]? = some (some (.tup xs))) (hl : xs.length ≤ sizeLine)
    (hte : ∀ x S2 (Qe : AK), x ∈ xs → Qe (f x) S2 → te ((wipeA τ vs).set j (some x)) S2 Qe) (q : Q (.lst (xs.map f)) S) : aLc (aiTup (aVar i)) j aYes te vs τ S Q := by
  refine lc_map ⟨_, hz, xs, rfl, hl, f, fun _ _ => trivial, trivial, fun k x S2 hx => ?_, q⟩ fun Q1 Q2 h ⟨d, e, x, e2, q1⟩ => ⟨d, e, x, e2, h _ _ _ q1⟩
  exact ⟨fun Qb h => h, fun Qe h => hte x S2 Qe (List.mem_of_getElem? hx) h⟩
theorem lc_tp' {ta : AE} {j : Nat} {te : AE} {vs : List Nat} {τ : ASt} {S : Store} {Q : AK} {xs : List AV} (f : AV → AV) (hz : ∀ Q', Q' (.tup xs) S → ta τ S Q') (hm : ∀ (Q1 Q2 : AK), (∀ x S1, Q1 x S1 → Q2 x S1) → ta τ S Q1 → ta τ S Q2) (hl : xs.length ≤ sizeLine)
    (hte : ∀ x S2 (Qe : AK), x ∈ xs → Qe (f x) S2 → te ((wipeA τ vs).set j (some x)) S2 Qe) (q : Q (.lst (xs.map f)) S) : aLc (aiTup ta) j aYes te vs τ S Q := by
  refine lc_map (hz _ ⟨xs, rfl, hl, f, fun _ _ => trivial, trivial, fun k x S2 hx => ?_, q⟩) fun Q1 Q2 h h1 => hm _ _ (fun x S1 ⟨y, e, q1⟩ => ⟨y, e, h _ _ _ q1⟩) h1
  exact ⟨fun Qb h => h, fun Qe h => hte x S2 Qe (List.mem_of_getElem? hx) h⟩
theorem allA_map {α : Type} (l : List α) (f : α → Bool) (S : Store) : (allA (.lst (l.map fun c => AV.bl (f c))) S).ok ∧ (allA (.lst (l.map fun c => AV.bl (f c))) S).v = .bl (l.all f) := by
  show ((l.map fun c => AV.bl (f c)).all isBlA = true) ∧ AV.bl ((l.map fun c => AV.bl (f c)).all blOf) = _
  rw [List.all_map, List.all_map]
  refine ⟨by rw [List.all_eq_true]; intro x _; rfl, rfl⟩
theorem anyA_map {α : Type} (l : List α) (f : α → Bool) (S : Store) : (anyA (.lst (l.map fun c => AV.bl (f c))) S).ok ∧ (anyA (.lst (l.map fun c => AV.bl (f c))) S).v = .bl (l.any f) := by
  show ((l.map fun c => AV.bl (f c)).all isBlA = true) ∧ AV.bl ((l.map fun c => AV.bl (f c)).any blOf) = _
  rw [List.all_map, List.any_map]
  refine ⟨by rw [List.all_eq_true]; intro x _; rfl, rfl⟩
theorem le_sl {n : Nat} (h : n ≤ 16777216) : n ≤ sizeLine := by
  have : sizeLine = 16777216 := by decide +kernel
  omega
theorem Sub.upd {S' S : Store} {a : Addr} {o : AO} (s : Sub S' S) : Sub (updS S' a o) (updS S a o) := by
  refine ⟨fun b u e => ?_, fun b e => ?_⟩
  · by_cases q : b = a
    · subst q; rw [updS_same] at e ⊢; exact e
    · rw [updS_ne q] at e ⊢; exact s.le b u e
  · by_cases q : b = a
    · subst q; rw [updS_same] at e ⊢; exact e
    · rw [updS_ne q] at e ⊢; exact s.hid b e
/-- a comprehension all the way, behind its things -/
def LcGo (te : AE) (j : Nat) (vs : List Nat) (τ : ASt) (Q : AK) (xs : List AV) (S1 : Store) : Prop := ∀ D, S1 D = none → ∃ I : Nat → List AV → Store → Prop, I 0 [] (updS S1 D .hid) ∧
  (∀ (i : Nat) x acc S2, xs[i]? = some x → I i acc S2 → True ∧ aYes ((wipeA τ vs).set j (some x)) S2 fun b S3 => if b = true then te ((wipeA τ vs).set j (some x)) S3 fun y S4 => acc.length < sizeLine ∧ I (i + 1) (acc ++ [y]) S4 else I (i + 1) acc S3) ∧
  (∀ acc S2, I xs.length acc S2 → True ∧ Q (.lst acc) (dropS S2 D))
theorem aLc_rng {t : AA} {te : AE} {j : Nat} {vs : List Nat} {τ : ASt} {S : Store} {Q : AK} : aLc (aiRng1 t) j aYes te vs τ S Q = t τ S fun ds S1 => ∃ n : Int, ds = [.int n] ∧ -(2 ^ 62) ≤ n ∧ n < 2 ^ 62 ∧ LcGo te j vs τ Q (rngA 0 n.toNat) S1 := rfl
/-- the same, the list to be stored -/
def LcGoS (te : AE) (j : Nat) (vs : List Nat) (τ : ASt) (Q : AK) (xs : List AV) (S1 : Store) : Prop := ∀ D, S1 D = none → ∃ I : Nat → List AV → Store → Prop, I 0 [] (updS S1 D .hid) ∧
  (∀ (i : Nat) x acc S2, xs[i]? = some x → I i acc S2 → True ∧ aYes ((wipeA τ vs).set j (some x)) S2 fun b S3 => if b = true then te ((wipeA τ vs).set j (some x)) S3 fun y S4 => acc.length < sizeLine ∧ I (i + 1) (acc ++ [y]) S4 else I (i + 1) acc S3) ∧
  (∀ acc S2, I xs.length acc S2 → True ∧ Q (.ref D) (updS S2 D (.lst acc)))
theorem aLcS_rng {t : AA} {te : AE} {j : Nat} {vs : List Nat} {τ : ASt} {S : Store} {Q : AK} : aLcS (aiRng1 t) j aYes te vs τ S Q = t τ S fun ds S1 => ∃ n : Int, ds = [.int n] ∧ -(2 ^ 62) ≤ n ∧ n < 2 ^ 62 ∧ LcGoS te j vs τ Q (rngA 0 n.toNat) S1 := rfl
/-- over a list -/
def LcGoL (te : AE) (j : Nat) (vs : List Nat) (τ : ASt) (Q : AK) (d : AV) (xs : List AV) (S1 : Store) : Prop := ∀ D, S1 D = none → ∃ I : Nat → List AV → Store → Prop, I 0 [] (updS S1 D .hid) ∧
  (∀ (i : Nat) x acc S2, xs[i]? = some x → I i acc S2 → lstA S2 d = some xs ∧ aYes ((wipeA τ vs).set j (some x)) S2 fun b S3 => if b = true then te ((wipeA τ vs).set j (some x)) S3 fun y S4 => acc.length < sizeLine ∧ I (i + 1) (acc ++ [y]) S4 else I (i + 1) acc S3) ∧
  (∀ acc S2, I xs.length acc S2 → lstA S2 d = some xs ∧ Q (.lst acc) (dropS S2 D))
theorem aLc_lst {ta : AE} {te : AE} {j : Nat} {vs : List Nat} {τ : ASt} {S : Store} {Q : AK} : aLc (aiLst ta) j aYes te vs τ S Q = ta τ S fun d S1 => ∃ xs, lstA S1 d = some xs ∧ LcGoL te j vs τ Q d xs S1 := rfl
section
variable {xs : List AV} {te : AE} {j : Nat} {vs : List Nat} {τ : ASt} {S1 : Store} {Q : AK}
/-- over a frozen list, the store being of no account -/
theorem lcL_free (A : AV → Prop) (hl : xs.length ≤ sizeLine) (step : ∀ x ∈ xs, ∀ (Sx : Store) (Qe : AK), (∀ y S', A y → Qe y S') → te ((wipeA τ vs).set j (some x)) Sx Qe)
    (fin : ∀ acc S', (∀ y ∈ acc, A y) → acc.length = xs.length → Q (.lst acc) S') : LcGoL te j vs τ Q (.lst xs) xs S1 := by
  intro D hD
  refine ⟨fun i acc S2 => acc.length = i ∧ ∀ y ∈ acc, A y, ⟨rfl, fun y h => by cases h⟩, fun i x acc S2 hx ⟨hi, ha⟩ => ⟨rfl, ?_⟩, fun acc S2 ⟨hi, ha⟩ => ⟨rfl, fin acc _ ha hi⟩⟩
  have hlt := (List.getElem?_eq_some_iff.mp hx).1
  unfold aYes
  simp only [if_true]
  refine step x (List.mem_of_getElem? hx) _ _ fun y S' hy => ⟨by omega, by rw [List.length_append, List.length_singleton, hi], fun w hw => ?_⟩
  rcases List.mem_append.mp hw with h | h
  · exact ha w h
  · cases List.mem_singleton.mp h; exact hy
/-- over a frozen list, pure -/
theorem lcL_map (f : AV → AV) (hl : xs.length ≤ sizeLine) (step : ∀ x ∈ xs, ∀ (Sx : Store) (Qe : AK), Qe (f x) Sx → te ((wipeA τ vs).set j (some x)) Sx Qe) (q : Q (.lst (xs.map f)) S1) : LcGoL te j vs τ Q (.lst xs) xs S1 := by
  intro D hD
  refine ⟨fun i acc S2 => i ≤ xs.length ∧ acc = (xs.take i).map f ∧ S2 = updS S1 D .hid, ⟨Nat.zero_le _, rfl, rfl⟩, fun i x acc S2 hx ⟨hi, ea, es⟩ => ⟨rfl, ?_⟩, fun acc S2 ⟨hi, ea, es⟩ => ⟨rfl, ?_⟩⟩
  · have hlt := (List.getElem?_eq_some_iff.mp hx).1
    unfold aYes
    simp only [if_true]
    refine step x (List.mem_of_getElem? hx) _ _ ⟨?_, hlt, ?_, es⟩
    · rw [ea, List.length_map, List.length_take]
      omega
    · rw [ea, List.take_add_one, hx]
      simp
  · rw [ea, es, List.take_length, dropS_upd hD]
    exact q
end
section
variable {xs : List AV} {te : AE} {j : Nat} {vs : List Nat} {τ : ASt} {S1 : Store} {Q : AK} {p : Addr} {Pt : Type}
/-- a comprehension of drawn things: the store has one thing that changes -/
theorem lc_pot (po : Pt → AO) {pt : Pt} (I : Nat → Pt → Prop) (hp : S1 p = some (po pt)) (h0 : I 0 pt) (A : AV → Prop) (hl : xs.length ≤ sizeLine)
    (step : ∀ k x pt' Sx (Qe : AK), xs[k]? = some x → k < xs.length → I k pt' → Sx p = some (po pt') → (∀ y pt2, A y → I (k + 1) pt2 → Qe y (updS Sx p (po pt2))) → te ((wipeA τ vs).set j (some x)) Sx Qe)
    (fin : ∀ acc pt', acc.length = xs.length → (∀ y ∈ acc, A y) → I xs.length pt' → Q (.lst acc) (updS S1 p (po pt'))) : LcGo te j vs τ Q xs S1 := by
  intro D hD
  have ne : p ≠ D := by rintro rfl; rw [hp] at hD; cases hD
  refine ⟨fun i acc S2 => acc.length = i ∧ (∀ y ∈ acc, A y) ∧ ∃ pt', I i pt' ∧ S2 = updS (updS S1 p (po pt')) D .hid, ⟨rfl, (fun y h => by cases h), pt, h0, by rw [updS_self hp]⟩, fun i x acc S2 hx ⟨hi, ha, pt', hI, e⟩ => ⟨trivial, ?_⟩, fun acc S2 ⟨hi, ha, pt', hI, e⟩ => ⟨trivial, ?_⟩⟩
  · subst e
    have hlt := (List.getElem?_eq_some_iff.mp hx).1
    unfold aYes
    simp only [if_true]
    refine step i x pt' _ _ hx hlt hI (by rw [updS_ne ne, updS_same]) fun y pt2 hy hI2 => ⟨by omega, by rw [List.length_append, List.length_singleton, hi], fun w hw => ?_, pt2, hI2, ?_⟩
    · rcases List.mem_append.mp hw with h | h
      · exact ha w h
      · cases List.mem_singleton.mp h; exact hy
    · rw [← updS_comm ne, updS_updS]
  · subst e
    rw [dropS_upd (by rw [updS_ne (Ne.symm ne)]; exact hD)]
    exact fin acc pt' hi ha hI
/-- over a stored list: drawn things -/
theorem lcL_potR (po : Pt → AO) {pt : Pt} {l : Addr} (I : Nat → Pt → Prop) (hp : S1 p = some (po pt)) (h0 : I 0 pt) (A : AV → Prop) (hl : xs.length ≤ sizeLine) (hx : S1 l = some (.lst xs)) (nlp : l ≠ p)
    (step : ∀ k x pt' Sx (Qe : AK), xs[k]? = some x → k < xs.length → I k pt' → Sx p = some (po pt') → (∀ y pt2, A y → I (k + 1) pt2 → Qe y (updS Sx p (po pt2))) → te ((wipeA τ vs).set j (some x)) Sx Qe)
    (fin : ∀ acc pt', acc.length = xs.length → (∀ y ∈ acc, A y) → I xs.length pt' → Q (.lst acc) (updS S1 p (po pt'))) : LcGoL te j vs τ Q (.ref l) xs S1 := by
  intro D hD
  have ne : p ≠ D := by rintro rfl; rw [hp] at hD; cases hD
  have nl : l ≠ D := by rintro rfl; rw [hx] at hD; cases hD
  have keep : ∀ pt' : Pt, lstA (updS (updS S1 p (po pt')) D .hid) (.ref l) = some xs := fun pt' => lstA_ref (by rw [updS_ne nl, updS_ne nlp]; exact hx)
  refine ⟨fun i acc S2 => acc.length = i ∧ (∀ y ∈ acc, A y) ∧ ∃ pt', I i pt' ∧ S2 = updS (updS S1 p (po pt')) D .hid, ⟨rfl, (fun y h => by cases h), pt, h0, by rw [updS_self hp]⟩, fun i x acc S2 hx ⟨hi, ha, pt', hI, e⟩ => ?_, fun acc S2 ⟨hi, ha, pt', hI, e⟩ => ?_⟩
  · subst e
    refine ⟨keep pt', ?_⟩
    have hlt := (List.getElem?_eq_some_iff.mp hx).1
    unfold aYes
    simp only [if_true]
    refine step i x pt' _ _ hx hlt hI (by rw [updS_ne ne, updS_same]) fun y pt2 hy hI2 => ⟨by omega, by rw [List.length_append, List.length_singleton, hi], fun w hw => ?_, pt2, hI2, ?_⟩
    · rcases List.mem_append.mp hw with h | h
      · exact ha w h
      · cases List.mem_singleton.mp h; exact hy
    · rw [← updS_comm ne, updS_updS]
  · subst e
    refine ⟨keep pt', ?_⟩
    rw [dropS_upd (by rw [updS_ne (Ne.symm ne)]; exact hD)]
    exact fin acc pt' hi ha hI
theorem lcS_pot (po : Pt → AO) {pt : Pt} (I : Nat → Pt → Prop) (hp : S1 p = some (po pt)) (h0 : I 0 pt) (A : AV → Prop) (hl : xs.length ≤ sizeLine)
    (step : ∀ k x pt' Sx (Qe : AK), xs[k]? = some x → k < xs.length → I k pt' → Sx p = some (po pt') → (∀ y pt2, A y → I (k + 1) pt2 → Qe y (updS Sx p (po pt2))) → te ((wipeA τ vs).set j (some x)) Sx Qe)
    (fin : ∀ acc pt' D, S1 D = none → acc.length = xs.length → (∀ y ∈ acc, A y) → I xs.length pt' → Q (.ref D) (updS (updS S1 p (po pt')) D (.lst acc))) : LcGoS te j vs τ Q xs S1 := by
  intro D hD
  have ne : p ≠ D := by rintro rfl; rw [hp] at hD; cases hD
  refine ⟨fun i acc S2 => acc.length = i ∧ (∀ y ∈ acc, A y) ∧ ∃ pt', I i pt' ∧ S2 = updS (updS S1 p (po pt')) D .hid, ⟨rfl, (fun y h => by cases h), pt, h0, by rw [updS_self hp]⟩, fun i x acc S2 hx ⟨hi, ha, pt', hI, e⟩ => ⟨trivial, ?_⟩, fun acc S2 ⟨hi, ha, pt', hI, e⟩ => ⟨trivial, ?_⟩⟩
  · subst e
    have hlt := (List.getElem?_eq_some_iff.mp hx).1
    unfold aYes
    simp only [if_true]
    refine step i x pt' _ _ hx hlt hI (by rw [updS_ne ne, updS_same]) fun y pt2 hy hI2 => ⟨by omega, by rw [List.length_append, List.length_singleton, hi], fun w hw => ?_, pt2, hI2, ?_⟩
    · rcases List.mem_append.mp hw with h | h
      · exact ha w h
      · cases List.mem_singleton.mp h; exact hy
    · rw [← updS_comm ne, updS_updS]
  · subst e
    rw [updS_updS]
    exact fin acc pt' D hD hi ha hI
end
/-- a loop over numbers, all the way -/
def ForGo (ag : AG) (tb : AS) (D : AEnds) (τ : ASt) (xs : List AV) (S1 : Store) : Prop := ∃ I : Nat → ASt → Store → Prop, I 0 τ S1 ∧
  (∀ (i : Nat) x τ2 S2, xs[i]? = some x → I i τ2 S2 → True ∧ ag x τ2 S2 fun τ3 S3 => tb { D with nx := I (i + 1), ct := I (i + 1), bk := D.nx } τ3 S3) ∧ (∀ τ2 S2, I xs.length τ2 S2 → True ∧ D.nx τ2 S2)
theorem aFor_rng {t : AA} {ag : AG} {tb : AS} {D : AEnds} {τ : ASt} {S : Store} : aFor (aiRng1 t) ag tb D τ S = t τ S fun ds S1 => ∃ n : Int, ds = [.int n] ∧ -(2 ^ 62) ≤ n ∧ n < 2 ^ 62 ∧ ForGo ag tb D τ (rngA 0 n.toNat) S1 := rfl
theorem ForGo.of {ag : AG} {tb : AS} {D : AEnds} {τ : ASt} {xs : List AV} {S1 : Store} (I : Nat → ASt → Store → Prop) (h0 : I 0 τ S1)
    (step : ∀ (i : Nat) x τ2 S2, xs[i]? = some x → i < xs.length → I i τ2 S2 → ag x τ2 S2 fun τ3 S3 => tb { D with nx := I (i + 1), ct := I (i + 1), bk := D.nx } τ3 S3) (fin : ∀ τ2 S2, I xs.length τ2 S2 → D.nx τ2 S2) : ForGo ag tb D τ xs S1 :=
  ⟨I, h0, fun i x τ2 S2 hx hi => ⟨trivial, step i x τ2 S2 hx (List.getElem?_eq_some_iff.mp hx).1 hi⟩, fun τ2 S2 h => ⟨trivial, fin τ2 S2 h⟩⟩
theorem tupleA_lst {xs : List AV} {S : Store} : tupleA (.lst xs) S = ⟨True, .tup xs⟩ := rfl
theorem tupleA_tup {xs : List AV} {S : Store} : tupleA (.tup xs) S = ⟨True, .tup xs⟩ := rfl
theorem tupleA_ref {l : Addr} {xs : List AV} {S : Store} (h : S l = some (.lst xs)) : tupleA (.ref l) S = ⟨True, .tup xs⟩ := by
  show (match lstA S (.ref l) with | some xs => (⟨True, .tup xs⟩ : Ans) | none => badA) = _
  rw [lstA_ref h]
theorem wstA_lst {xs : List AV} {S : Store} : wstA S (.lst xs) = some xs := rfl
/-- what holds between two statements -/
theorem seq_mid {t u : AS} {D : AEnds} {τ : ASt} {S : Store} (P : ASt → Store → Prop) (h : ∀ D' : AEnds, (∀ τ S, P τ S → D'.nx τ S) → D'.rt = D.rt → t D' τ S) (h2 : ∀ τ S, P τ S → u D τ S) : aSeq t u D τ S :=
  h { D with nx := u D } h2 rfl
theorem seq_cut {t u : AS} {D : AEnds} {τ : ASt} {S : Store} (P : ASt → Store → Prop) (h : ∀ D' : AEnds, (∀ τ S, P τ S → D'.nx τ S) → (∀ d S, D.rt d S → D'.rt d S) → (∀ τ S, D.ct τ S → D'.ct τ S) → (∀ τ S, D.bk τ S → D'.bk τ S) → t D' τ S) (h2 : ∀ τ S, P τ S → u D τ S) : aSeq t u D τ S :=
  h { D with nx := u D } h2 (fun _ _ h => h) (fun _ _ h => h) (fun _ _ h => h)
/-- a cell is set -/
def SubAt (o i d : AV) (S : Store) (Q : Store → Prop) : Prop := ∃ l ds k j, o = .ref l ∧ i = .int k ∧ S l = some (.lst ds) ∧ ixN ds.length k = some j ∧ Q (updS S l (.lst (ds.set j d)))
theorem agSub_def {to ti : AE} {d : AV} {τ : ASt} {S : Store} {Q : ASt → Store → Prop} : agSub to ti d τ S Q = to τ S fun o S1 => ti τ S1 fun i S2 => SubAt o i d S2 (Q τ) := rfl
theorem cutAns_rol {xs : List AV} {lo hi : Option Int} {S : Store} : cutAns (.rol xs) lo hi S = ⟨True, .lst (cutL xs lo hi)⟩ := rfl
theorem cutAns_lst {xs : List AV} {lo hi : Option Int} {S : Store} : cutAns (.lst xs) lo hi S = ⟨True, .lst (cutL xs lo hi)⟩ := rfl
theorem cutAns_tup {xs : List AV} {lo hi : Option Int} {S : Store} : cutAns (.tup xs) lo hi S = ⟨True, .tup (cutL xs lo hi)⟩ := rfl
theorem cutAns_str {z : Str} {lo hi : Option Int} {S : Store} : cutAns (.str z) lo hi S = ⟨z.length ≤ sizeLine, .str (cutS z lo hi)⟩ := rfl
theorem cutAns_ref {l : Addr} {xs : List AV} {lo hi : Option Int} {S : Store} (h : S l = some (.lst xs)) : cutAns (.ref l) lo hi S = ⟨True, .lst (cutL xs lo hi)⟩ := by
  show (match lstA S (.ref l) with | some xs => (⟨True, .lst (cutL xs lo hi)⟩ : Ans) | none => badA) = _
  rw [lstA_ref h]
theorem ex_some {α : Type} {b : α} {P : α → Prop} : (∃ i, some b = some i ∧ P i) = P b := propext ⟨fun ⟨k, e, p⟩ => by cases e; exact p, fun p => ⟨b, rfl, p⟩⟩
theorem sumA_ints {xs : List AV} {S : Store} (h : ∀ x ∈ xs, isIntA x = true) : ∃ s, sumA (.lst xs) S = ⟨True, .int s⟩ := by
  exact ⟨(xs.map intOf).sum, ans_tt (List.all_eq_true.mpr h) rfl⟩
theorem sum_cut (ns : List Int) (lo hi : Option Int) : ∃ s, ∀ S, sumA (.lst (cutL (ns.map .int) lo hi)) S = ⟨True, .int s⟩ := by
  obtain ⟨s, h⟩ := sumA_ints (xs := cutL (ns.map .int) lo hi) (S := fun _ => none) fun x hx => by
    obtain ⟨i, _, rfl⟩ := List.mem_map.mp (List.mem_of_mem_drop (List.mem_of_mem_take hx))
    rfl
  exact ⟨s, fun S => h⟩
/-- what is returned beside a list that came anew -/
theorem rt_new {Q : AK} {d : AV} {S : Store} {l : Addr} {xs : List AV} (hl : S l = none) (q : Q d S) : RtW Q d (updS S l (.lst xs)) :=
  rt_sub (.new .refl hl (by rw [hl]; simp) (by simp)) q
/-- the list that came anew is what is returned -/
theorem rt_list {Q : AK} {S : Store} {l : Addr} {xs : List AV} (hl : S l = none) (q : Q (.lst xs) S) : RtW Q (.ref l) (updS S l (.lst xs)) :=
  rt_frz updS_same (.new .refl hl (by rw [hl]; simp) (by simp)) hl q
end L3

set_option Elab.async false
set_option linter.all false
set_option maxRecDepth 100000
set_option maxHeartbeats 1000000
set_option autoImplicit false
/-! L3K: own classes: fields, methods, what is made of them. -/
namespace L3
open PySem L2 PyProof.Rows
variable {bb : Birth}

def putA (f : Str) (v : AV) : List (Str × AV) → List (Str × AV)
  | [] => [(f, v)]
  | (g, x) :: r => if g = f then (g, v) :: r else (g, x) :: putA f v r
/-- fields beside fields -/
inductive RelF (K : PySem.W.Frag) (H : Hp) (S : Store) : List (Str × V) → List (Str × AV) → Prop
  | nil : RelF K H S [] []
  | cons {f : Str} {v : V} {d : AV} {vs : List (Str × V)} {ds : List (Str × AV)} : RelA K H S v d → RelF K H S vs ds → RelF K H S ((f, v) :: vs) ((f, d) :: ds)
section
variable {K : PySem.W.Frag} {H : Hp} {S : Store}
theorem relF_of : ∀ {fv : List (Str × V)} {fs : List (Str × AV)}, fv.map (·.1) = fs.map (·.1) → RelAs K H S (fv.map (·.2)) (fs.map (·.2)) → RelF K H S fv fs
  | [], [], _, _ => .nil
  | [], _ :: _, h, _ => by cases h
  | _ :: _, [], h, _ => by cases h
  | (f, v) :: fv, (g, d) :: fs, h, r => by
    have h1 : f = g := (List.cons.inj h).1
    subst h1
    cases r with
    | cons a b => exact .cons a (relF_of (List.cons.inj h).2 b)
theorem RelF.names : ∀ {fv : List (Str × V)} {fs : List (Str × AV)}, RelF K H S fv fs → fv.map (·.1) = fs.map (·.1)
  | _, _, .nil => rfl
  | _, _, .cons a b => by rw [List.map_cons, List.map_cons, b.names]
theorem RelF.vals : ∀ {fv : List (Str × V)} {fs : List (Str × AV)}, RelF K H S fv fs → RelAs K H S (fv.map (·.2)) (fs.map (·.2))
  | _, _, .nil => .nil
  | _, _, .cons a b => .cons a b.vals
theorem RelF.length : ∀ {fv : List (Str × V)} {fs : List (Str × AV)}, RelF K H S fv fs → fv.length = fs.length
  | _, _, .nil => rfl
  | _, _, .cons a b => by rw [List.length_cons, List.length_cons, b.length]
theorem RelF.look : ∀ {fv : List (Str × V)} {fs : List (Str × AV)} {f : Str} {d : AV}, RelF K H S fv fs → fs.lookup f = some d → ∃ v, fv.lookup f = some v ∧ RelA K H S v d
  | _, _, _, _, .nil, h => by cases h
  | _, _, f, _, .cons (f := g) a b, h => by
    rw [List.lookup_cons] at h ⊢
    cases e : f == g with
    | true => rw [e] at h; cases h; exact ⟨_, rfl, a⟩
    | false => rw [e] at h; exact b.look h
theorem RelF.none : ∀ {fv : List (Str × V)} {fs : List (Str × AV)} {f : Str}, RelF K H S fv fs → fs.lookup f = Option.none → fv.lookup f = Option.none
  | _, _, _, .nil, h => rfl
  | _, _, f, .cons (f := g) a b, h => by
    rw [List.lookup_cons] at h ⊢
    cases e : f == g with
    | true => rw [e] at h; cases h
    | false => rw [e] at h; exact b.none h
theorem RelF.put {f : Str} {v : V} {d : AV} (r : RelA K H S v d) : ∀ {fv : List (Str × V)} {fs : List (Str × AV)}, RelF K H S fv fs → RelF K H S (putF f v fv) (putA f d fs)
  | _, _, .nil => .cons r .nil
  | _, _, .cons (f := g) (v := w) (vs := vs) (ds := ds) (d := e) a b => by
    show RelF K H S (if g = f then (g, v) :: vs else (g, w) :: putF f v vs) (if g = f then (g, d) :: ds else (g, e) :: putA f d ds)
    by_cases h : g = f
    · rw [if_pos h, if_pos h]; exact .cons r b
    · rw [if_neg h, if_neg h]; exact .cons a (RelF.put r b)
theorem insE (so : StOk K H S) {a C : Addr} {fs : List (Str × AV)} (h : S a = some (.ins C fs)) : ∃ dx fv, H a = some (.ins C dx fv) ∧ RelF K H S fv fs := by
  obtain ⟨dx, fv, h1, h2, h3⟩ := so a _ h
  exact ⟨dx, fv, h1, relF_of h2 h3⟩
theorem mutI (so : StOk K H S) {a C dx : Addr} {fs fs' : List (Str × AV)} {fv : List (Str × V)} (h : S a = some (.ins C fs)) (r : RelF K H S fv fs') :
    StOk K (upd H a (.ins C dx fv)) (updS S a (.ins C fs')) ∧ Step H S (upd H a (.ins C dx fv)) (updS S a (.ins C fs')) := by
  have st := step_mut (p := a) (o := .ins C dx fv) (u := .ins C fs') h (H := H) (by simp)
  exact ⟨stok_mut so h (by simp) ⟨dx, fv, upd_same, r.names, r.vals.step st⟩, st⟩
end
/-- a field of a thing is read -/
def FldAt (x : AV) (C : Addr) (f : Str) (S : Store) (Q : AK) : Prop := ∃ a fs v, x = .ref a ∧ S a = some (.ins C fs) ∧ fs.lookup f = some v ∧ Q v S
theorem fldAt_of {a C : Addr} {f : Str} {S : Store} {Q : AK} {fs : List (Str × AV)} {v : AV} (h : S a = some (.ins C fs)) (hl : fs.lookup f = some v) : FldAt (.ref a) C f S Q = Q v S :=
  propext ⟨fun ⟨a', fs', v', e, h', hl', q⟩ => by cases e; rw [h] at h'; cases h'; rw [hl] at hl'; cases hl'; exact q, fun q => ⟨a, fs, v, rfl, h, hl, q⟩⟩
def aFld (C : Addr) (f : Str) (ta : AE) : AE := fun τ S Q => ta τ S fun x S1 => FldAt x C f S1 Q
/-- a field of a thing is written -/
def PutAt (x : AV) (C : Addr) (f : Str) (y : AV) (S : Store) (Q : Store → Prop) : Prop := ∃ a fs, x = .ref a ∧ S a = some (.ins C fs) ∧ fs.length < 1000 ∧ Q (updS S a (.ins C (putA f y fs)))
theorem putAt_of {a C : Addr} {f : Str} {S : Store} {Q : Store → Prop} {fs : List (Str × AV)} {y : AV} (h : S a = some (.ins C fs)) (hl : fs.length < 1000) : PutAt (.ref a) C f y S Q = Q (updS S a (.ins C (putA f y fs))) :=
  propext ⟨fun ⟨a', fs', e, h', hl', q⟩ => by cases e; rw [h] at h'; cases h'; exact q, fun q => ⟨a, fs, rfl, h, hl, q⟩⟩
def aPut (C : Addr) (f : Str) (to tv : AE) : AS := fun D τ S => tv τ S fun y S1 => to τ S1 fun x S2 => PutAt x C f y S2 (D.nx τ)
def agFld (C : Addr) (f : Str) (to : AE) : AG := fun y τ S Q => to τ S fun x S1 => PutAt x C f y S1 (Q τ)
def aPutAug (ar : AV → AV → Store → Ans) (C : Addr) (f : Str) (to tv : AE) : AS := fun D τ S => to τ S fun x S1 => FldAt x C f S1 fun v S2 => tv τ S2 fun y S3 => (ar v y S3).ok ∧ PutAt x C f (ar v y S3).v S3 (D.nx τ)
section
variable {X : Cx} {e o value : Expr} {es : List Expr} {f : Str} {pos pos' tpos p : Pos} {ta tv to : AE} {t : AA} {C : Addr}
theorem e_fld (c : Cls X.K C) (n : NoAttr X.K C f) (he : PE X e (low (kx X bb) ta)) (hb : attributeBase e f X.env (eval e X.env) = eval e X.env := by rfl) : PE X (.Attribute e f pos) (low (kx X bb) (aFld C f ta)) := (pe_fld he hb).weak fun σ H QH ⟨τ, S, Q, R, so, q, k⟩ =>
  ⟨τ, S, _, R, so, q, fun v H1 d S1 so1 st1 r1 ⟨a, fs, y, ex, hs, hl, q1⟩ => by
    subst ex
    obtain rfl := rel_refE r1
    obtain ⟨dx, fv, h1, rf⟩ := insE so1 hs
    obtain ⟨w, hw, rw'⟩ := rf.look hl
    exact ⟨a, C, dx, fv, w, rfl, h1, c, n, hw, k w H1 y S1 so1 st1 rw' q1⟩⟩
theorem s_put (c : Cls X.K C) (n : NoAttr X.K C f) (ho : PE X o (low (kx X bb) to)) (hv : PE X value (low (kx X bb) tv)) (hs : swapsWith value (some (.Attribute o f pos')) pos.line X.env = pure false := by rfl) :
    PS X (.Assign [.Attribute o f pos'] value pos) (lowS (kx X bb) (aPut C f to tv)) := (ps_fld ho hv hs).weak fun DH σ H ⟨τ, S, D, R, so, q, k⟩ =>
  ⟨τ, S, _, R, so, q, fun v H1 d S1 so1 st1 r1 q1 => ⟨τ, S1, _, R.step st1, so1, q1, fun u H2 x S2 so2 st2 r2 ⟨a, fs, ex, hs, hl, q2⟩ => by
    subst ex
    obtain rfl := rel_refE r2
    obtain ⟨dx, fv, h1, rf⟩ := insE so2 hs
    obtain ⟨so3, st3⟩ := mutI (dx := dx) so2 hs (rf.put (r1.step st2))
    exact ⟨a, C, dx, fv, rfl, h1, c, n, by rw [rf.length]; exact hl, k.nx σ _ τ _ so3 ((st1.trans st2).trans st3) (((R.step st1).step st2).step st3) q2⟩⟩⟩
theorem s_putAug {op : Operator} {ar : AV → AV → Store → Ans} (c : Cls X.K C) (n : NoAttr X.K C f) (ho : PE X o (low (kx X bb) to)) (hv : PE X value (low (kx X bb) tv)) (hop : InOp X op (lowO X.K ar)) :
    PS X (.AugAssign (.Attribute o f tpos) op value pos) (lowS (kx X bb) (aPutAug ar C f to tv)) := (ps_fldaug ho hv hop).weak fun DH σ H ⟨τ, S, D, R, so, q, k⟩ =>
  ⟨τ, S, _, R, so, q, fun v H1 x S1 so1 st1 r1 ⟨a, fs, y, ex, hs, hl, q1⟩ => by
    subst ex
    obtain rfl := rel_refE r1
    obtain ⟨dx, fv, h1, rf⟩ := insE so1 hs
    obtain ⟨w, hw, rw'⟩ := rf.look hl
    refine ⟨a, C, dx, fv, w, rfl, h1, c, n, hw, τ, S1, _, R.step st1, so1, q1, fun z H2 dz S2 so2 st2 rz ⟨ok, a2, fs2, e2, hs2, hl2, q2⟩ => ?_⟩
    cases e2
    refine ⟨y, dz, S2, rw'.step st2, rz, so2, ok, fun r H3 so3 st3 rr => ?_⟩
    obtain ⟨dx2, fv2, h2, rf2⟩ := insE so3 hs2
    obtain ⟨so4, st4⟩ := mutI (dx := dx2) so3 hs2 (rf2.put rr)
    have stT := ((st1.trans st2).trans st3).trans st4
    exact ⟨dx2, fv2, h2, by rw [rf2.length]; exact hl2, k.nx σ _ τ _ so4 stT (R.step stT) q2⟩⟩
theorem g_fld (c : Cls X.K C) (n : NoAttr X.K C f) (ho : PE X o (low (kx X bb) to)) : PG X (.Attribute o f pos) (lowG (kx X bb) (agFld C f to)) := by
  refine ⟨fun pins s σ H v u QH I r h => ?_⟩
  obtain ⟨d, τ, S, Q, rd, R, so, q, k⟩ := h
  show wpAny _ _ (do
    let ov ← holding [u] (eval o X.env)
    standAt pos.atName
    holding [u, ov] (setAttr ov f u)
    release [u, ov] []) _ _ _
  refine wpAny_bind (wpAny_holding (thn (ho.run pins s σ H (fun vo H1 => ∃ x S1, StOk X.K H1 S1 ∧ Step H S H1 S1 ∧ RelA X.K H1 S1 vo x ∧ PutAt x C f d S1 (Q τ)) I ⟨τ, S, _, R, so, q, fun vo H1 x S1 so1 st1 r1 q1 => ⟨x, S1, so1, st1, r1, q1⟩⟩) fun ov s1 z => ?_))
  obtain ⟨vo, H1, I1, ro, x, S1, so1, st1, r1, a, fs, ex, hs, hl, q1⟩ := z
  subst ex
  obtain rfl := rel_refE r1
  obtain rfl : ov = .ref a := ro
  obtain ⟨dx, fv, h1, rf⟩ := insE so1 hs
  obtain ⟨so2, st2⟩ := mutI (dx := dx) so1 hs (rf.put (rd.step st1))
  refine wpAny_bind (wpAny_standAt (wpAny_bind (wpAny_holding (setattr_ok I1 h1 c n (by rw [rf.length]; exact hl) r fun s3 I3 => ?_))))
  exact wpAny_release ⟨σ, _, I3, k σ _ τ _ so2 (st1.trans st2) (R.step (st1.trans st2)) q1⟩
end

/-! ### methods -/
structure MethD (K : PySem.W.Frag) (C : Addr) (m qual : Str) (st : Stmt) (ps : List Str) : Prop where
  ex : ∃ (f : Addr) (fd : FuncData), L2.Fun K m qual st f fd ∧ Meth K C m f ∧ Binds K fd ps []
structure FnM (P : Program) (w : World) (K : PySem.W.Frag) (mg : Str → Option Value) (base : Heap) (k : Nat) (C : Addr) (m qual : Str) (st : Stmt) (ps : List Str) (asp : ASp) : Prop where
  ex : ∃ (f : Addr) (fd : FuncData), L2.Fun K m qual st f fd ∧ FnG P w K mg base k f fd ps (spOf K asp) ∧ Meth K C m f ∧ Binds K fd ps []
section
variable {P : Program} {w : World} {K : PySem.W.Frag} {mg : Str → Option Value} {base : Heap} {k : Nat} {C : Addr} {m qual : Str} {st : Stmt} {ps : List Str} {asp : ASp}
theorem MethD.of {h : Heap} {f : Addr} {od an : Option Addr} {sl : Array (Option Value)} {oc kV doc pm cd ct : Value} (X : K.In h)
    (a : PySem.W.findIn K (.ref C) m = some (some (.ref f))) (l : K.lookup f = some ⟨oc, od, .func (PySem.W.fnOf m qual (defArgs st) (defBody st) (defScope st) .none kV doc pm an cd ct), sl⟩) (c : PySem.W.codeIn K cd qual = true) (kp : PySem.W.keepIn K (.ref f) = true)
    (fn : PySem.W.isFn K (.ref f) = true) (b : ∀ (kV doc pm : Value) (an : Option Addr) (cdv ct : Value) (us : List Value), us.length = ps.length → bindArgs (PySem.W.fnOf m qual (defArgs st) (defBody st) (defScope st) .none kV doc pm an cdv ct) ⟨us, []⟩ = pure (ps.zip us)) : MethD K C m qual st ps := by
  have F : L2.Fun K m qual st f (PySem.W.fnOf m qual (defArgs st) (defBody st) (defScope st) .none kV doc pm an cd ct) := ⟨⟨oc, od, kV, doc, pm, an, cd, ct, sl, rfl, l, c⟩, kp⟩
  exact ⟨f, _, F, ⟨a, fn, kp⟩, .all fun us hl => b kV doc pm an cd ct us hl⟩
theorem FnM.of (D : MethD K C m qual st ps) (h : ∀ f fd, L2.Fun K m qual st f fd → FnG P w K mg base k f fd ps (spOf K asp)) : FnM P w K mg base k C m qual st ps asp := let ⟨f, fd, G, hm, hb⟩ := D.ex; ⟨f, fd, G, h f fd G, hm, hb⟩
end
/-- o.m(..) -/
def aMeth (C : Addr) (m : Str) (asp : ASp) (to : AE) (t : AA) : AE := fun τ S Q => to τ S fun x S1 => ∃ a fs, x = .ref a ∧ S1 a = some (.ins C fs) ∧ fs.lookup m = none ∧ t τ S1 fun ds S2 => asp (x :: ds) S2 Q
/-- C(..) -/
def aMake (C : Addr) (asp : ASp) (t : AA) : AE := fun τ S Q => t τ S fun ds S1 => ∀ a, S1 a = none → asp (.ref a :: ds) (updS S1 a (.ins C [])) fun d S2 => d = .non ∧ Q (.ref a) S2
section
variable {X : Cx} {k : Nat} {C : Addr} {m qual x : Str} {st : Stmt} {ps : List Str} {asp : ASp} {e o : Expr} {es : List Expr} {to : AE} {t : AA} {p pos apos : Pos}
theorem e_meth {pl : Sem Bool} (F : FnM X.prog X.w X.K X.mg X.base k C m qual st ps asp) (c : Cls X.K C) (gd : X.A.guards = some []) (hr : Room k X.A) (he : PE X o (low (kx X bb) to)) (ha : PA X (e :: es) (lowA (kx X bb) t))
    (hst : starEach (e :: es) X.env = (false, eval e X.env) :: starEach es X.env := by rfl) (hpl : (backTo pos (starEach es X.env)).any (·.1) = false := by rfl)
    (ht : eval (.Call (.Attribute o m apos) (e :: es) [] pos) X.env = (do
      let ov ← eval o X.env
      standAt apos.atName
      let (f, first) ← holding [ov] (getMethod ov m pl)
      callWith pos f first (backTo pos (starEach (e :: es) X.env)) (backToKw pos (keywordEach [] X.env))) := by rfl) :
    PE X (.Call (.Attribute o m apos) (e :: es) [] pos) (low (kx X bb) (aMeth C m asp to t)) := by
  obtain ⟨f, fd, _, G, hm, hb⟩ := F.ex
  refine ⟨fun pins s σ H QH I ⟨τ, S, Q, R, so, q, kk⟩ => ?_⟩
  refine PySem.W.methodCall_KW (pl := pl) (thn (he.run pins s σ H (fun v H1 => ∃ a fs S1, StOk X.K H1 S1 ∧ Step H S H1 S1 ∧ v = .ref a ∧ S1 a = some (.ins C fs) ∧ fs.lookup m = none ∧ t τ S1 fun ds S2 => asp (.ref a :: ds) S2 Q) I
    ⟨τ, S, _, R, so, q, fun v H1 d S1 so1 st1 r1 ⟨a, fs, ed, hs, hl, q1⟩ => by subst ed; exact ⟨a, fs, S1, so1, st1, rel_refE r1, hs, hl, q1⟩⟩) fun u s1 z => ?_) ht
  obtain ⟨v, H1, I1, rx, a, fs, S1, so1, st1, ev, hs, hl, q1⟩ := z
  subst ev
  obtain rfl : u = Value.ref a := rx
  obtain ⟨dx, fv, h1, rf⟩ := insE so1 hs
  refine getmeth_ok I1 h1 c hm (rf.none hl) ?_
  refine PySem.W.callWith_K (first := [.ref a]) (h₀ := X.base) I1.ok.mod.kin hm.kp (thn (ha.run pos pins s1 σ H1 (fun vs H2 => ∃ ds S2, StOk X.K H2 S2 ∧ Step H1 S1 H2 S2 ∧ RelAs X.K H2 S2 vs ds ∧ asp (.ref a :: ds) S2 Q) I1
    ⟨τ, S1, _, R.step st1, so1, q1, fun vs H2 ds S2 so2 st2 r2 q2 => ⟨ds, S2, so2, st2, r2, q2⟩⟩) fun us s2 z => ?_) hst hpl
  obtain ⟨vs, H2, I2, r, ds, S2, so2, st2, r2, q2⟩ := z
  exact ⟨I2.kIn, run_g (us := .ref a :: us) (vs := .ref a :: vs) G gd hr hb I2 (.cons rfl r) ⟨.ref a :: ds, S2, Q, .cons (.ref a) r2, so2, q2, fun d S' v H' so' st' r' q' => kk v H' d S' so' ((st1.trans st2).trans st') r' q'⟩⟩
theorem e_meth0 {pl : Sem Bool} (F : FnM X.prog X.w X.K X.mg X.base k C m qual st ps asp) (c : Cls X.K C) (gd : X.A.guards = some []) (hr : Room k X.A) (he : PE X o (low (kx X bb) to))
    (ht : eval (.Call (.Attribute o m apos) [] [] pos) X.env = (do
      let ov ← eval o X.env
      standAt apos.atName
      let (f, first) ← holding [ov] (getMethod ov m pl)
      callWith pos f first (backTo pos (starEach [] X.env)) (backToKw pos (keywordEach [] X.env))) := by rfl) :
    PE X (.Call (.Attribute o m apos) [] [] pos) (low (kx X bb) (aMeth C m asp to aNil)) := by
  obtain ⟨f, fd, _, G, hm, hb⟩ := F.ex
  refine ⟨fun pins s σ H QH I ⟨τ, S, Q, R, so, q, kk⟩ => ?_⟩
  refine PySem.W.methodCall_KW (pl := pl) (thn (he.run pins s σ H (fun v H1 => ∃ a fs S1, StOk X.K H1 S1 ∧ Step H S H1 S1 ∧ v = .ref a ∧ S1 a = some (.ins C fs) ∧ fs.lookup m = none ∧ asp [.ref a] S1 Q) I
    ⟨τ, S, _, R, so, q, fun v H1 d S1 so1 st1 r1 ⟨a, fs, ed, hs, hl, q1⟩ => by subst ed; exact ⟨a, fs, S1, so1, st1, rel_refE r1, hs, hl, q1⟩⟩) fun u s1 z => ?_) ht
  obtain ⟨v, H1, I1, rx, a, fs, S1, so1, st1, ev, hs, hl, q1⟩ := z
  subst ev
  obtain rfl : u = Value.ref a := rx
  obtain ⟨dx, fv, h1, rf⟩ := insE so1 hs
  refine getmeth_ok I1 h1 c hm (rf.none hl) ?_
  exact PySem.W.callWith_K0 (first := [.ref a]) I1.kIn hm.kp (run_g (us := [.ref a]) (vs := [.ref a]) G gd hr hb I1 (.cons rfl .nil) ⟨[.ref a], S1, Q, .cons (.ref a) .nil, so1, q1, fun d S' v H' so' st' r' q' => kk v H' d S' so' (st1.trans st') r' q'⟩)
theorem made_ok {K : PySem.W.Frag} {H : Hp} {S : Store} (so : StOk K H S) {a dx : Addr} (ha : H a = none) (hd : H dx = none) (ne : dx ≠ a) :
    StOk K (upd (upd H dx (.own a)) a (.ins C dx [])) (updS S a (.ins C [])) ∧ Step H S (upd (upd H dx (.own a)) a (.ins C dx [])) (updS S a (.ins C [])) := by
  have st1 : Step H S (upd H dx (.own a)) S := step_new so hd
  have so1 : StOk K (upd H dx (.own a)) S := stok_new so hd
  have ha1 : upd H dx (.own a) a = none := by rw [upd_ne (Ne.symm ne)]; exact ha
  have st2 := step_put (o := .ins C dx []) (u := .ins C []) so1 ha1
  exact ⟨stok_put (u := .ins C []) so1 ha1 ⟨dx, [], upd_same, rfl, .nil⟩, st1.trans st2⟩
/-- C(e, ..), its __init__ walked -/
theorem e_make {f : Addr} {fd : FuncData} (M : Mk X.K C f) (G : FnG X.prog X.w X.K X.mg X.base k f fd ps (spOf X.K asp)) (hb : Binds X.K fd ps []) (gd : X.A.guards = some []) (hr : Room (k + 1) X.A) (hm : X.mg x = some (.ref C)) (ha : PA X (e :: es) (lowA (kx X bb) t)) (hg : Gl X x := by rfl)
    (hdb : (x == ("__debug__" : Str)) = false := by decide) (he : starEach (e :: es) X.env = (false, eval e X.env) :: starEach es X.env := by rfl) (hpl : (backTo pos (starEach es X.env)).any (·.1) = false := by rfl) :
    PE X (.Call (.Name x p) (e :: es) [] pos) (low (kx X bb) (aMake C asp t)) := by
  refine ⟨fun pins s σ H QH I ⟨τ, S, Q, R, so, q, kk⟩ => ?_⟩
  refine wpAny_Call_Name_kw (ld_glob I hg hm ?_ hdb)
  refine PySem.W.callWith_K (h₀ := X.base) I.ok.mod.kin M.kp (thn (ha.run pos pins s σ H (fun vs H1 => ∃ ds S1, StOk X.K H1 S1 ∧ Step H S H1 S1 ∧ RelAs X.K H1 S1 vs ds ∧ ∀ a, S1 a = none → asp (.ref a :: ds) (updS S1 a (.ins C [])) fun d S2 => d = .non ∧ Q (.ref a) S2) I
    ⟨τ, S, _, R, so, q, fun vs H1 ds S1 so1 st1 r1 q1 => ⟨ds, S1, so1, st1, r1, q1⟩⟩) fun us s1 z => ?_) he hpl
  obtain ⟨vs, H1, I1, r, ds, S1, so1, st1, r1, q1⟩ := z
  refine ⟨I1.kIn, ?_⟩
  have fx : H1 (s1.heap.objs.size + 1) = none := I1.hok.fresh (Nat.le_succ _)
  have fd' : H1 s1.heap.objs.size = none := I1.hok.fresh (Nat.le_refl _)
  have ne : s1.heap.objs.size ≠ s1.heap.objs.size + 1 := Nat.ne_of_lt (Nat.lt_succ_self _)
  obtain ⟨so2, st2⟩ := made_ok (C := C) so1 fx fd' ne
  have I2 := Inv.made (C := C) I1
  have hq : spOf X.K asp (.ref (s1.heap.objs.size + 1) :: vs) (upd (upd H1 s1.heap.objs.size (.own (s1.heap.objs.size + 1))) (s1.heap.objs.size + 1) (.ins C s1.heap.objs.size [])) (fun v H2 => v = .non ∧ QH (.ref (s1.heap.objs.size + 1)) H2) E0 :=
    ⟨.ref (s1.heap.objs.size + 1) :: ds, _, _, .cons (.ref _) (r1.step st2), so2, q1 _ (so1.fresh fx), fun d S' v H' so' st' r' ⟨ed, q'⟩ => by
      subst ed
      exact ⟨rel_nonE r', kk _ H' _ S' so' ((st1.trans st2).trans st') (.ref _) q'⟩⟩
  have r2 : Vals (V.ref (s1.heap.objs.size + 1) :: vs) (Value.ref (s1.heap.objs.size + 1) :: us) := .cons rfl r
  have hl : (Value.ref (s1.heap.objs.size + 1) :: us ++ []).length = ps.length := by
    rw [List.append_nil, ← r2.length]
    exact G.len _ _ _ _ hq
  have b := hb _ (Value.ref (s1.heap.objs.size + 1) :: us) I2.kIn hl
  rw [List.append_nil] at b
  refine wpAny_call (make_map (f := f) I1.kIn M.makes M.init (beq_iff_eq.mp M.fn) (codeAny_mono (G.go (X.A.under (.builtin "type.__call__" ⟨.ref C :: us, []⟩)) (by first | exact gd | (simpa [Around.under] using gd)) (hr.make C us []) X.stack _ _ ⟨Value.ref (s1.heap.objs.size + 1) :: us, []⟩ (Value.ref (s1.heap.objs.size + 1) :: us) _ _ E0 (I2.env0.make C us []) b r2 hq) fun r' s' hq' => ?_))
  cases r' with
  | error e => exact False.elim hq'
  | ok fl =>
    cases fl with
    | ret u =>
      obtain ⟨v, H', I3, rv, ev, q3⟩ := I2.after hq'
      subst ev
      exact ⟨rv, ⟨V.ref (s1.heap.objs.size + 1), H', I3, rfl, q3⟩⟩
    | next => exact False.elim hq'
    | brk => exact False.elim hq'
    | cont => exact False.elim hq'
theorem e_mk (F : FnM X.prog X.w X.K X.mg X.base k C "__init__" qual st ps asp) (mk : PySem.W.makesIn X.K C = true ∧ PySem.W.keepIn X.K (.ref C) = true) (hm : X.mg x = some (.ref C)) (gd : X.A.guards = some []) (hr : Room (k + 1) X.A) (ha : PA X (e :: es) (lowA (kx X bb) t)) (hg : Gl X x := by rfl)
    (hdb : (x == ("__debug__" : Str)) = false := by decide) (he : starEach (e :: es) X.env = (false, eval e X.env) :: starEach es X.env := by rfl) (hpl : (backTo pos (starEach es X.env)).any (·.1) = false := by rfl) :
    PE X (.Call (.Name x p) (e :: es) [] pos) (low (kx X bb) (aMake C asp t)) := by
  obtain ⟨f, fd, _, G, m, hb⟩ := F.ex
  exact e_make ⟨mk.1, m.at_, m.fn, mk.2⟩ G hb gd hr hm ha hg hdb he hpl
end
end L3

set_option Elab.async false
set_option linter.all false
set_option maxRecDepth 100000
set_option maxHeartbeats 1000000
set_option autoImplicit false
/-! L3M: texts of ints, ints of texts, texts and lists over and over, three names at once. -/
namespace L3
open PySem L2 PyProof.Rows
variable {bb : Birth}

def mulTA (z : Str) (n : Int) : Ans := ⟨z.length * n.toNat ≤ 16777216 ∧ -(2 ^ 63) ≤ n ∧ n ≤ 16777216, .str (Txt.mul z n)⟩
def mulLA (o : Option (List AV)) (n : Int) : Ans := match o with
  | some xs => ⟨-(2 ^ 63) ≤ n ∧ n < 2 ^ 63 ∧ xs.length * n.toNat ≤ sizeLine, .lst (List.replicate n.toNat xs).flatten⟩
  | none => badA
/-- * of ints, of a text and an int, of a list and an int -/
def mulX (x y : AV) (S : Store) : Ans := match x with
  | .int i => match y with
    | .int j => ⟨CMulB i j, .int (i * j)⟩
    | _ => badA
  | .str z => match y with
    | .int n => mulTA z n
    | _ => badA
  | x => match y with
    | .int n => mulLA (wstA S x) n
    | _ => badA
section
variable {X : Cx}
theorem mulOk_txt {z : Str} {n : Int} (h : z.length * n.toNat ≤ 16777216 ∧ -(2 ^ 63) ≤ n ∧ n ≤ 16777216) : MulOk z n := by
  obtain ⟨h1, h2, h3⟩ := h
  by_cases h0 : n < 1
  · exact mulOk_of z.length 0 (Nat.le_refl _) (by omega) h2 (by omega) (by omega)
  · exact mulOk_of z.length n.toNat (Nat.le_refl _) (by omega) h2 (by omega) h1
theorem op_mul_txt : OpR X (binaryOp .Mult) (fun x y H Q => ∃ z n, x = .str z ∧ y = .int n ∧ MulOk z n ∧ Q (.str (Txt.mul z n)) H) := by
  intro pins s σ H x y v u Q I rx ry h
  obtain ⟨z, n, rfl, rfl, hok, q⟩ := h
  obtain ⟨t, rfl⟩ := rx
  obtain ⟨t', rfl⟩ := ry
  exact SB.mul hok fun t' k => ⟨.str (Txt.mul z n), H, I.tok _, ⟨_, rfl⟩, q⟩
theorem relAs_reps {K : PySem.W.Frag} {H : Hp} {S : Store} {vs : List V} {ds : List AV} (r : RelAs K H S vs ds) : ∀ n : Nat, RelAs K H S (List.replicate n vs).flatten (List.replicate n ds).flatten
  | 0 => .nil
  | n + 1 => by rw [List.replicate_succ, List.replicate_succ, List.flatten_cons, List.flatten_cons]; exact r.app (relAs_reps r n)
theorem om_lst {x y : V} {dx : AV} {n : Int} {S : Store} {H : Hp} {QH : VK} (so : StOk X.K H S) (rx : RelA X.K H S x dx) (ry : RelA X.K H S y (.int n)) (ok : (mulLA (wstA S dx) n).ok)
    (k : ∀ v H', StOk X.K H' S → Step H S H' S → RelA X.K H' S v (mulLA (wstA S dx) n).v → QH v H') : rRep x y H QH := by
  cases ex : wstA S dx with
  | none => rw [ex] at ok; exact ok.elim
  | some xs =>
    rw [ex] at ok k
    obtain ⟨a, vs, rfl, ha, ra⟩ := rel_wstE so rx ex
    obtain rfl := rel_intE ry
    obtain ⟨h1, h2, h3⟩ := ok
    exact ⟨a, n, vs, rfl, rfl, ha, h1, h2, by rw [ra.length]; exact h3, fun p hp => k _ _ (stok_new so hp) (step_new so hp) (rel_lst so hp (relAs_reps ra n.toNat))⟩
theorem o_mulX : OpR X (binaryOp .Mult) (lowO X.K mulX) := opr_weak (OpR.or (OpR.or op_mul op_mulW) (OpR.or op_mul_txt op_rep)) fun x y H QH ⟨dx, dy, S, rx, ry, so, ok, k⟩ => by
  cases dx with
  | int i =>
    cases dy with
    | int j =>
      obtain rfl := rel_intE rx
      obtain rfl := rel_intE ry
      rcases ok with c | c
      · exact .inl (.inl ⟨i, j, rfl, rfl, c, k _ H so .refl (.int _)⟩)
      · exact .inl (.inr ⟨i, j, rfl, rfl, c, k _ H so .refl (.int _)⟩)
    | _ => exact ok.elim
  | str z =>
    cases dy with
    | int n =>
      obtain rfl := rel_strE rx
      obtain rfl := rel_intE ry
      exact .inr (.inl ⟨z, n, rfl, rfl, mulOk_txt ok, k _ H so .refl (.str _)⟩)
    | _ => exact ok.elim
  | lst xs =>
    cases dy with
    | int n => exact .inr (.inr (om_lst so rx ry ok k))
    | _ => exact ok.elim
  | ref l =>
    cases dy with
    | int n => exact .inr (.inr (om_lst so rx ry ok k))
    | _ => exact ok.elim
  | _ =>
    cases dy with
    | int n => exact ok.elim
    | _ => exact ok.elim
/-- str(n), str(text) -/
def strA (x : AV) (_ : Store) : Ans := match x with
  | .int i => ⟨i.natAbs.log2 < 1920, .str (Str.ofString (toString i))⟩
  | .str z => ⟨True, .str z⟩
  | _ => badA
theorem c_str : CallR X (.type "str") (lowC X.K (one1 strA)) := c_one (CallR.or call_str_int SkE.call_str_str) fun x d S H QH r so ok k => by
  cases d with
  | int i => obtain rfl := rel_intE r; exact .inl ⟨i, rfl, ok, k _ H so .refl (.str _)⟩
  | str z => obtain rfl := rel_strE r; exact .inr ⟨z, rfl, k _ H so .refl (.str _)⟩
  | _ => exact ok.elim
/-- int(n), int(flag), int(text) -/
def intXA (x : AV) (_ : Store) : Ans := match x with
  | .int i => ⟨True, .int i⟩
  | .bl b => ⟨True, .int (if b then 1 else 0)⟩
  | .str z => ⟨(PySem.intText? z).isSome = true ∧ z.length ≤ 640, .int ((PySem.intText? z).getD 0)⟩
  | _ => badA
theorem c_intX : CallR X (.type "int") (lowC X.K (one1 intXA)) := c_one (CallR.or call_int1 call_int_str) fun x d S H QH r so ok k => by
  cases d with
  | int i => obtain rfl := rel_intE r; exact .inl (.inl ⟨i, rfl, k _ H so .refl (.int _)⟩)
  | bl b => obtain rfl := rel_blE r; exact .inl (.inr ⟨b, rfl, k _ H so .refl (.int _)⟩)
  | str z =>
    obtain rfl := rel_strE r
    obtain ⟨h1, h2⟩ := ok
    obtain ⟨n, hn⟩ := Option.isSome_iff_exists.mp h1
    refine .inr ⟨z, n, rfl, hn, h2, k _ H so .refl ?_⟩
    show RelA X.K H S (.int n) (.int ((PySem.intText? z).getD 0))
    rw [hn]
    exact .int n
  | _ => exact ok.elim
theorem in_add : InOp X .Add (lowO X.K (intA (fun _ _ => True) fun i j => i + j)) := fun pins s σ H x y u v Q I rx ry q => (o_int (rI_tt iop_add)) pins s σ H x y u v Q I rx ry q
theorem mulX_ii {i j : Int} {S : Store} : mulX (.int i) (.int j) S = ⟨CMulB i j, .int (i * j)⟩ := rfl
theorem mulX_si {z : Str} {j : Int} {S : Store} : mulX (.str z) (.int j) S = ⟨z.length * j.toNat ≤ 16777216 ∧ -(2 ^ 63) ≤ j ∧ j ≤ 16777216, .str (Txt.mul z j)⟩ := rfl
theorem mulX_li {xs : List AV} {j : Int} {S : Store} : mulX (.lst xs) (.int j) S = ⟨-(2 ^ 63) ≤ j ∧ j < 2 ^ 63 ∧ xs.length * j.toNat ≤ sizeLine, .lst (List.replicate j.toNat xs).flatten⟩ := rfl
theorem mulX_ri {l : Addr} {xs : List AV} {j : Int} {S : Store} (h : S l = some (.lst xs)) : mulX (.ref l) (.int j) S = ⟨-(2 ^ 63) ≤ j ∧ j < 2 ^ 63 ∧ xs.length * j.toNat ≤ sizeLine, .lst (List.replicate j.toNat xs).flatten⟩ := by
  show mulLA (wstA S (.ref l)) j = _
  rw [wstA_ref h]
  rfl
theorem strA_i {i : Int} {S : Store} : strA (.int i) S = ⟨i.natAbs.log2 < 1920, .str (Str.ofString (toString i))⟩ := rfl
theorem strA_s {z : Str} {S : Store} : strA (.str z) S = ⟨True, .str z⟩ := rfl
theorem intXA_i {i : Int} {S : Store} : intXA (.int i) S = ⟨True, .int i⟩ := rfl
theorem intXA_b {i : Bool} {S : Store} : intXA (.bl i) S = ⟨True, .int (if i then 1 else 0)⟩ := rfl
theorem intXA_s {z : Str} {n : Int} {S : Store} (h : PySem.intText? z = some n) : intXA (.str z) S = ⟨z.length ≤ 640, .int n⟩ := by
  show (⟨(PySem.intText? z).isSome = true ∧ z.length ≤ 640, .int ((PySem.intText? z).getD 0)⟩ : Ans) = _
  rw [h]
  simp
/-- is, is not of bools -/
def isBA (x y : AV) (_ : Store) : Ans := match x with
  | .bl a => match y with
    | .bl b => ⟨True, .bl (decide (a = b))⟩
    | _ => badA
  | _ => badA
def isntBA (x y : AV) (_ : Store) : Ans := match x with
  | .bl a => match y with
    | .bl b => ⟨True, .bl (!decide (a = b))⟩
    | _ => badA
  | _ => badA
theorem isBA_bb {a b : Bool} {S : Store} : isBA (.bl a) (.bl b) S = ⟨True, .bl (decide (a = b))⟩ := rfl
theorem isntBA_bb {a b : Bool} {S : Store} : isntBA (.bl a) (.bl b) S = ⟨True, .bl (!decide (a = b))⟩ := rfl
theorem o_isB : OpR X (compareOp .Is) (lowO X.K isBA) := opr_weak L2.op_isBl fun x y H QH ⟨dx, dy, S, rx, ry, so, ok, k⟩ => by
  cases dx with
  | bl a =>
    cases dy with
    | bl b => obtain rfl := rel_blE rx; obtain rfl := rel_blE ry; exact ⟨a, b, rfl, rfl, k _ H so .refl (.bl _)⟩
    | _ => exact ok.elim
  | _ => exact ok.elim
theorem o_isntB : OpR X (compareOp .IsNot) (lowO X.K isntBA) := opr_weak L2.op_notBl fun x y H QH ⟨dx, dy, S, rx, ry, so, ok, k⟩ => by
  cases dx with
  | bl a =>
    cases dy with
    | bl b => obtain rfl := rel_blE rx; obtain rfl := rel_blE ry; exact ⟨a, b, rfl, rfl, k _ H so .refl (.bl _)⟩
    | _ => exact ok.elim
  | _ => exact ok.elim
end
end L3

set_option Elab.async false
set_option linter.all false
set_option maxRecDepth 100000
set_option maxHeartbeats 2000000
set_option autoImplicit false
/-! L3N: comprehensions over pairs; starred parts of lists. -/
namespace L3
open PySem L2
variable {bb : Birth}
section
/-- [e for x, y in xs if t] -/
def aLcP (ai : AI) (j k : Nat) (tt : AT) (te : AE) (vs : List Nat) : AE := fun τ S Q => ai τ S fun xs G S1 => ∀ D, S1 D = none → ∃ I : Nat → List AV → Store → Prop, I 0 [] (updS S1 D .hid) ∧
  (∀ (i : Nat) x acc S2, xs[i]? = some x → I i acc S2 → G S2 ∧ ∃ d1 d2, x = .tup [d1, d2] ∧ tt (((wipeA τ vs).set j (some d1)).set k (some d2)) S2 fun b S3 => if b = true then te (((wipeA τ vs).set j (some d1)).set k (some d2)) S3 fun y S4 => acc.length < sizeLine ∧ I (i + 1) (acc ++ [y]) S4 else I (i + 1) acc S3) ∧
  (∀ acc S2, I xs.length acc S2 → G S2 ∧ Q (.lst acc) (dropS S2 D))
theorem lcP_low {kb : KB} {wi : TI} {ai : AI} {g : TG} {tt : AT} {te : AE} {vs : List Nat} {j jj : Nat} (hj : j ∈ vs) (hjj : jj ∈ vs) (hwi : wi = lowI kb ai) (hg : g = gTup kb.K 2 (gCons (gName j) (gCons (gName jj) gNil))) : ∀ σ H QH, low kb (aLcP ai j jj tt te vs) σ H QH → tLc wi g (lowT kb tt) (low kb te) vs σ H QH := by
  subst hwi hg
  intro σ H QH ⟨τ, S, Q, R, so, q, k⟩
  refine ⟨τ, S, _, R, so, q, fun J H1 xs G S1 so1 st1 it hI D hD => ?_⟩
  obtain ⟨I, i0, hstep, hend⟩ := hI D (so1.fresh hD)
  have nD : S1 D = none := so1.fresh hD
  -- the start
  have stD : Step H1 S1 (upd H1 D (.lst [])) (updS S1 D .hid) := step_put so1 hD
  have soD : StOk kb.K (upd H1 D (.lst [])) (updS S1 D .hid) := stok_put (u := .hid) so1 hD ⟨_, upd_same⟩
  refine ⟨fun i m H' => ∃ acc S2 ws, I i acc S2 ∧ i + m = xs.length ∧ StOk kb.K H' S2 ∧ S2 D = some .hid ∧ H' D = some (.lst ws) ∧ RelAs kb.K H' S2 ws acc ∧
    (∀ a o, a ≠ D → S1 a = none → H1 a = some o → H' a = some o ∧ S2 a = none) ∧ (∀ a, S1 a = some .hid → H' a = H1 a ∧ S2 a = some .hid), ⟨xs.length, [], _, [], i0, by omega, soD, updS_same, upd_same, .nil, fun a o _ n h => stD.old a o n h, fun a h => stD.hid a h⟩, ?_⟩
  intro i m H2 ⟨acc, S2, ws, w2, hm, so2, hh2, hD2, r2, old2, hid2⟩
  have st2 : Step H1 S1 H2 S2 := ⟨fun a o n h => old2 a o (ne_of_none h hD) n h, hid2⟩
  by_cases hi : i < xs.length
  · right
    have hx : xs[i]? = some xs[i] := List.getElem?_eq_getElem hi
    obtain ⟨hG, d1, d2, ex, hq⟩ := hstep i _ acc S2 hx w2
    obtain ⟨hgo, hy⟩ := (it H2 S2 so2 st2 hG).1 i _ hx
    refine ⟨hgo, _, fun H' h => h, fun v H3 hv => ?_⟩
    obtain ⟨so3, st3, r3⟩ := hy v H3 hv
    rw [ex] at r3
    obtain ⟨av, ws0, ev, sq, rs0⟩ := rel_tupE r3
    obtain ⟨v1, v2, ew, rv1, rv2⟩ := rel_two rs0
    subst ev ew
    refine ⟨av, [v1, v2], rfl, sq, rfl, v1, [v2], rfl, v2, [], rfl, rfl, ?_⟩
    refine ⟨by rw [wipe_set hjj, wipe_set hj]; exact wipe_wipe σ vs vs fun _ h => h, ?_⟩
    have R3 : Rp kb H3 S2 (((L2.wipe σ vs).set j (some v1)).set jj (some v2)) (((wipeA τ vs).set j (some d1)).set jj (some d2)) := ((((R.step st1).step st2).step st3).wipe vs |>.set rv1 j) |>.set rv2 jj
    have keep : ∀ {H4 : Hp} {S4 : Store}, Step H2 S2 H4 S4 → H4 D = some (.lst ws) ∧ S4 D = some .hid ∧ RelAs kb.K H4 S4 ws acc ∧ (∀ a o, a ≠ D → S1 a = none → H1 a = some o → H4 a = some o ∧ S4 a = none) ∧ (∀ a, S1 a = some .hid → H4 a = H1 a ∧ S4 a = some .hid) := by
      intro H4 S4 st
      obtain ⟨e1, e2⟩ := st.hid D hh2
      exact ⟨e1.trans hD2, e2, r2.step st, fun a o ne n h => let ⟨h1, n1⟩ := old2 a o ne n h; st.old a o n1 h1, fun a h => let ⟨h1, n1⟩ := hid2 a h; let ⟨h3, n3⟩ := st.hid a n1; ⟨h3.trans h1, n3⟩⟩
    refine ⟨_, S2, _, R3, so3, hq, fun b H4 S4 so4 st4 q4 => ?_⟩
    cases b with
    | false =>
      rw [if_neg Bool.false_ne_true] at q4 ⊢
      obtain ⟨e1, e2, e3, e4, e5⟩ := keep (st3.trans st4)
      exact ⟨m - 1, by omega, acc, S4, ws, q4, by omega, so4, e2, e1, e3, e4, e5⟩
    | true =>
      rw [if_pos rfl] at q4 ⊢
      refine ⟨_, S4, _, R3.step st4, so4, q4, fun y H5 dy S5 so5 st5 r5 ⟨hz, w5⟩ => ?_⟩
      obtain ⟨e1, e2, e3, e4, e5⟩ := keep ((st3.trans st4).trans st5)
      refine ⟨ws, e1, by rw [r2.length]; exact hz, m - 1, by omega, acc ++ [dy], S5, ws ++ [y], w5, by omega, ?_⟩
      -- the list at D has grown; nothing else
      have grow : Old H5 S5 (upd H5 D (.lst (ws ++ [y]))) S5 := fun a o n h => by
        have ne : a ≠ D := by rintro rfl; rw [e2] at n; cases n
        exact ⟨by rw [upd_ne ne]; exact h, n⟩
      refine ⟨fun a o e => ?_, e2, upd_same, (e3.app (.cons r5 .nil)).stepO grow, fun a o ne n h => by rw [upd_ne ne]; exact e4 a o ne n h, fun a h => ?_⟩
      · by_cases z : a = D
        · subst z
          rw [e2] at e
          cases e
          exact ⟨_, upd_same⟩
        · exact (so5 a o e).stepO grow (upd_ne z)
      · have z : a ≠ D := by rintro rfl; rw [nD] at h; cases h
        rw [upd_ne z]
        exact e5 a h
  · left
    have e : i = xs.length := by omega
    subst e
    obtain ⟨hG, hq⟩ := hend acc S2 w2
    have less : Old H2 S2 H2 (dropS S2 D) := fun a o n h => ⟨h, by unfold dropS; split; rfl; exact n⟩
    refine ⟨(it H2 S2 so2 st2 hG).2, k _ H2 _ (dropS S2 D) (fun a o e => ?_) (st1.trans ⟨fun a o n h => ?_, fun a h => ?_⟩) (.lst hD2 dropS_same (r2.stepO less)) hq⟩
    · have ne : a ≠ D := by rintro rfl; rw [dropS_same] at e; cases e
      rw [dropS_ne ne] at e
      exact (so2 a o e).stepO less rfl
    · obtain ⟨h1, n1⟩ := st2.old a o n h
      exact ⟨h1, (less a o n1 h1).2⟩
    · obtain ⟨h1, n1⟩ := st2.hid a h
      have ne : a ≠ D := by rintro rfl; rw [nD] at h; cases h
      exact ⟨h1, by rw [dropS_ne ne]; exact n1⟩
end
section
variable {X : Cx} {elt tg iter : Expr} {ifs : List Expr} {scope : Scope} {own : List (Str × Nat)} {ai : AI} {tt : AT} {te : AE} {pos : Pos}
theorem e_lcP (j jj : Nat) (own : List (Str × Nat)) (hc : X.calm = true) (hN : X.N.Nodup) (hi : PI X tg iter (lowI (kx X bb) ai)) (ok : BlkOk X.N X.env.scope scope own)
    (hg : ∀ (s : Shared) (H : Hp) (C : Addr) (cl : List (Str × Addr)) (fp : List Addr), PG (X.blk s H scope (compEnvC scope cl C X.env) fp) tg (gTup X.K 2 (gCons (gName j) (gCons (gName jj) gNil))))
    (ht : ∀ (s : Shared) (H : Hp) (C : Addr) (cl : List (Str × Addr)) (fp : List Addr), PTs (X.blk s H scope (compEnvC scope cl C X.env) fp) ifs (lowT (kx X bb) tt))
    (he : ∀ (s : Shared) (H : Hp) (C : Addr) (cl : List (Str × Addr)) (fp : List Addr), PE (X.blk s H scope (compEnvC scope cl C X.env) fp) elt (low (kx X bb) te))
    (hj : j ∈ own.map (·.2) := by decide) (hjj : jj ∈ own.map (·.2) := by decide) (hs : ∀ x, foldedSetIterable iter X.env x = pure x := by intro _; rfl) : PE X (.ListComp elt [⟨tg, iter, ifs, 0⟩] scope pos) (low (kx X bb) (aLcP ai j jj tt te (own.map (·.2)))) :=
  (pe_lc (own := own) hc hN hi ok hg ht he hs).weak (lcP_low hj hjj rfl rfl)
end
/-- [*a, b] -/
def aStar (ta : AE) (tr : AA) : AA := fun τ S Q => ta τ S fun x S1 => ∃ xs, seqA S1 x = some xs ∧ tr τ S1 fun ys S2 => Q (xs ++ ys) S2
section
variable {X : Cx} {e : Expr} {es : List Expr} {ta : AE} {tr : AA} {p : Pos}
theorem a_star (ha : PE X e (low (kx X bb) ta)) (hr : PA X es (lowA (kx X bb) tr)) (hs : starEach (.Starred e p :: es) X.env = (true, eval e X.env) :: starEach es X.env := by rfl) : PA X (.Starred e p :: es) (lowA (kx X bb) (aStar ta tr)) :=
  (StX.pa_star ha hr hs).weak fun σ H QH ⟨τ, S, Q, R, so, q, k⟩ => ⟨τ, S, _, R, so, q, fun v H1 d S1 so1 st1 r1 ⟨xs, e, q1⟩ => by
    obtain ⟨a, vs, rfl, h, rs⟩ := rel_seqE so1 r1 e
    exact ⟨a, vs, rfl, h.symm, τ, S1, _, R.step st1, so1, q1, fun ws H2 ys S2 so2 st2 r2 q2 => k (vs ++ ws) H2 (xs ++ ys) S2 so2 (st1.trans st2) ((rs.step st2).app r2) q2⟩⟩
end
end L3

set_option Elab.async false
set_option linter.all false
set_option maxRecDepth 100000
set_option maxHeartbeats 1000000
set_option autoImplicit false
/-! L3P: in of lists and tuples, index, count, bits, three names at once. -/
namespace L3
open PySem L2 PyProof.Rows
variable {bb : Birth}

def fl1 : AV → Bool
  | .non => true
  | .bl _ => true
  | .int _ => true
  | .str _ => true
  | _ => false
def toV : AV → V
  | .bl b => .bl b
  | .int i => .int i
  | .str z => .str z
  | _ => .non
/-- == of flat values -/
def eq1 : AV → AV → Bool
  | .non, .non => true
  | .bl a, .bl b => a == b
  | .bl a, .int b => (if a then 1 else 0) == b
  | .int a, .bl b => a == (if b then 1 else 0)
  | .int a, .int b => a == b
  | .str a, .str b => a == b
  | _, _ => false
theorem eq1_V {x y : AV} (fx : fl1 x = true) (fy : fl1 y = true) : eqV (toV x) (toV y) = eq1 x y := by
  cases x <;> first | (cases fx; done) | skip
  all_goals cases y <;> first | (cases fy; done) | rfl
section
variable {K : PySem.W.Frag} {H : Hp} {S : Store}
theorem rel_fl {v : V} {d : AV} (r : RelA K H S v d) (f : fl1 d = true) : v = toV d := by
  cases d <;> first | (cases f; done) | skip
  · exact rel_nonE r
  · exact rel_blE r
  · exact rel_intE r
  · exact rel_strE r
theorem toV_flat {d : AV} (f : fl1 d = true) : flatV (toV d) = true := by cases d <;> first | (cases f; done) | rfl
theorem rel_fls : ∀ {vs : List V} {ds : List AV}, RelAs K H S vs ds → ds.all fl1 = true → vs = ds.map toV
  | _, _, .nil, _ => rfl
  | _, _, .cons r t, e => by
    rw [List.all_cons, Bool.and_eq_true_iff] at e
    rw [rel_fl r e.1, rel_fls t e.2]
    rfl
end
theorem toVs_flat {ds : List AV} (h : ds.all fl1 = true) : (ds.map toV).all flatV = true := by
  rw [List.all_map]
  exact List.all_eq_true.mpr fun x hx => toV_flat (List.all_eq_true.mp h x hx)
theorem inV_to {x : AV} {xs : List AV} (fx : fl1 x = true) (fs : xs.all fl1 = true) : inV (toV x) (xs.map toV) = xs.any fun y => eq1 y x := by
  unfold inV
  rw [List.any_map]
  induction xs with
  | nil => rfl
  | cons y ys ih =>
    rw [List.all_cons, Bool.and_eq_true_iff] at fs
    rw [List.any_cons, List.any_cons, ih fs.2, Function.comp_apply, eq1_V fs.1 fx]
def inL (x : AV) : Option (List AV) → Ans
  | some xs => ⟨fl1 x = true ∧ xs.all fl1 = true, .bl (xs.any fun y => eq1 y x)⟩
  | none => badA
/-- x in xs: a sign in a text, a flat value in a list or tuple of flat ones -/
def inA (x y : AV) (S : Store) : Ans := match y with
  | .str z => inSA x (.str z) S
  | y => inL x (seqA S y)
def notA (a : Ans) : Ans := match a with
  | ⟨p, .bl b⟩ => ⟨p, .bl (!b)⟩
  | _ => badA
def ninA (x y : AV) (S : Store) : Ans := match y with
  | .str z => badA
  | y => notA (inL x (seqA S y))
section
variable {X : Cx}
theorem oin_seq {x y : V} {dx dy : AV} {S : Store} {H : Hp} {QH : VK} (so : StOk X.K H S) (rx : RelA X.K H S x dx) (ry : RelA X.K H S y dy) (ok : (inL dx (seqA S dy)).ok)
    (neg : Bool) (k : ∀ b, (inL dx (seqA S dy)).v = .bl b → QH (.bl (if neg then !b else b)) H) : rIn X.K neg x y H QH := by
  cases ey : seqA S dy with
  | none => rw [ey] at ok; exact ok.elim
  | some xs =>
    rw [ey] at ok k
    obtain ⟨f1, f2⟩ := ok
    obtain ⟨p, vs, rfl, hp, rs⟩ := rel_seqE so ry ey
    have e1 := rel_fl rx f1
    have e2 := rel_fls rs f2
    subst e1 e2
    refine ⟨p, _, rfl, hp, toV_flat f1, toVs_flat f2, ?_⟩
    have := k _ rfl
    rw [inV_to f1 f2]
    exact this
theorem o_in : OpR X (compareOp .In) (lowO X.K inA) := opr_weak (OpR.or op_in_sign op_in_seq) fun x y H QH ⟨dx, dy, S, rx, ry, so, ok, k⟩ => by
  have gen : inA dx dy S = inL dx (seqA S dy) → rIn X.K false x y H QH := fun e => by
    rw [e] at ok k
    exact oin_seq so rx ry ok false fun b eb => by rw [eb] at k; exact k _ H so .refl (.bl b)
  cases dy with
  | str j =>
    cases dx with
    | str i =>
      obtain ⟨c, rfl⟩ := ok
      obtain rfl := rel_strE rx
      obtain rfl := rel_strE ry
      exact .inl ⟨c, j, rfl, rfl, k _ H so .refl (.bl _)⟩
    | _ => exact ok.elim
  | _ => exact .inr (gen rfl)
theorem inL_bl {x : AV} {o : Option (List AV)} (ok : (inL x o).ok) : ∃ b, (inL x o).v = .bl b ∧ notA (inL x o) = ⟨(inL x o).ok, .bl (!b)⟩ := by
  cases o with
  | none => exact ok.elim
  | some xs => exact ⟨_, rfl, rfl⟩
theorem notA_ok {a : Ans} (h : (notA a).ok) : a.ok := by
  obtain ⟨p, v⟩ := a
  cases v <;> first | exact h | exact h.elim
theorem o_nin : OpR X (compareOp .NotIn) (lowO X.K ninA) := opr_weak op_notIn_seq fun x y H QH ⟨dx, dy, S, rx, ry, so, ok, k⟩ => by
  have gen : ninA dx dy S = notA (inL dx (seqA S dy)) → rIn X.K true x y H QH := fun e => by
    rw [e] at ok k
    have ok1 := notA_ok ok
    obtain ⟨b, e1, e2⟩ := inL_bl ok1
    rw [e2] at k
    exact oin_seq so rx ry ok1 true fun b' eb => by rw [e1] at eb; cases eb; exact k _ H so .refl (.bl _)
  cases dy with
  | str j => exact ok.elim
  | _ => exact gen rfl
theorem inA_tup {x : AV} {xs : List AV} {S : Store} : inA x (.tup xs) S = ⟨fl1 x = true ∧ xs.all fl1 = true, .bl (xs.any fun y => eq1 y x)⟩ := rfl
theorem inA_lst {x : AV} {xs : List AV} {S : Store} : inA x (.lst xs) S = ⟨fl1 x = true ∧ xs.all fl1 = true, .bl (xs.any fun y => eq1 y x)⟩ := rfl
theorem inA_sg {c : Nat} {z : Str} {S : Store} : inA (.str ⟨#[c]⟩) (.str z) S = ⟨True, .bl (decide (c ∈ z.cps.toList))⟩ := ans_tt ⟨c, rfl⟩ rfl
theorem ninA_tup {x : AV} {xs : List AV} {S : Store} : ninA x (.tup xs) S = ⟨fl1 x = true ∧ xs.all fl1 = true, .bl (!xs.any fun y => eq1 y x)⟩ := rfl
theorem ninA_lst {x : AV} {xs : List AV} {S : Store} : ninA x (.lst xs) S = ⟨fl1 x = true ∧ xs.all fl1 = true, .bl (!xs.any fun y => eq1 y x)⟩ := rfl
/-- bits -/
def shrA := intA (fun _ j => 0 ≤ j) fun i j => i / 2 ^ j.toNat
theorem o_shr : OpR X (binaryOp .RShift) (lowO X.K shrA) := o_int op_shr
def andA := intA (fun _ _ => True) fun i j => Builtin.bitAnd i j
theorem o_band : OpR X (binaryOp .BitAnd) (lowO X.K andA) := o_int (rI_tt op_and)
theorem shrA_ii {i j : Int} {S : Store} : shrA (.int i) (.int j) S = ⟨0 ≤ j, .int (i / 2 ^ j.toNat)⟩ := rfl
theorem andA_ii {i j : Int} {S : Store} : andA (.int i) (.int j) S = ⟨True, .int (Builtin.bitAnd i j)⟩ := rfl
/-- xs.index(y) -/
def mIndex (x : AV) (as : List AV) (S : Store) (Q : AK) : Prop := ∃ xs y j z, lstA S x = some xs ∧ as = [y] ∧ fl1 y = true ∧ xs.all fl1 = true ∧ xs[j]? = some z ∧ eq1 z y = true ∧ (∀ (m : Nat) z', m < j → xs[m]? = some z' → eq1 z' y = false) ∧ Q (.int (j : Nat)) S
theorem m_index : MtR X "list.index" (lowM X.K mIndex) := mtr_weak mt_index fun x vs H QH ⟨dx, as, S, Q, rx, rs, so, ⟨xs, y, j, z, ex, ea, f1, f2, hj, hz, hno, q⟩, k⟩ => by
  subst ea
  obtain ⟨w, rfl, rw'⟩ := rel_one rs
  obtain ⟨a, ws, rfl, hl, rl⟩ := rel_lstE so rx ex
  have e1 := rel_fl rw' f1
  have e2 := rel_fls rl f2
  subst e1 e2
  have fz : fl1 z = true := List.all_eq_true.mp f2 z (List.mem_of_getElem? hj)
  refine ⟨a, _, _, j, toV z, rfl, rfl, hl, toV_flat f1, toVs_flat f2, by rw [List.getElem?_map, hj]; rfl, by rw [eq1_V fz f1]; exact hz, fun m z' hm hz' => ?_, k _ H _ S so .refl (.int _) q⟩
  rw [List.getElem?_map] at hz'
  cases e : xs[m]? with
  | none => rw [e] at hz'; cases hz'
  | some y' =>
    rw [e] at hz'
    cases hz'
    rw [eq1_V (List.all_eq_true.mp f2 y' (List.mem_of_getElem? e)) f1]
    exact hno m y' hm e
/-- xs.count(n) of whole numbers -/
def mCount (x : AV) (as : List AV) (S : Store) (Q : AK) : Prop := ∃ (ns : List Int) (n : Int), lstA S x = some (ns.map .int) ∧ as = [.int n] ∧ Q (.int (ns.count n : Nat)) S
theorem rel_intL {K : PySem.W.Frag} {H : Hp} {S : Store} : ∀ {ns : List Int} {vs : List V}, RelAs K H S vs (ns.map AV.int) → vs = ns.map V.int
  | [], _, .nil => rfl
  | n :: ns, _, .cons r t => by rw [rel_intE r, rel_intL t]; rfl
theorem m_count : MtR X "list.count" (lowM X.K mCount) := mtr_weak mt_lcount fun x vs H QH ⟨dx, as, S, Q, rx, rs, so, ⟨ns, n, ex, ea, q⟩, k⟩ => by
  subst ea
  obtain ⟨w, rfl, rw'⟩ := rel_one rs
  obtain ⟨a, ws, rfl, hl, rl⟩ := rel_lstE so rx ex
  have e1 := rel_intL rl
  subst e1
  obtain rfl := rel_intE rw'
  exact ⟨a, ns, n, rfl, rfl, hl, k _ H _ S so .refl (.int _) q⟩
end
section
variable {X : Cx} {a b c : Expr} {t : AA} {pos : Pos}
/-- a, b, c = x, y, z -/
def aPar3 (i j l : Nat) (t : AA) : AS := fun D τ S => t τ S fun ds S1 => ∃ x y z, ds = [x, y, z] ∧ D.nx (((τ.set i (some x)).set j (some y)).set l (some z)) S1
theorem s_par3 {i j l : Nat} {x y z : Str} {px py pz pt : Pos} {kt k2 : Nat} {pt2 : Pos} (hc : X.calm = true) (hN : X.N.Nodup) (ha : PA X [a, b, c] (lowA (kx X bb) t)) (hi : X.N[i]? = some x := by rfl) (hj : X.N[j]? = some y := by rfl) (hl : X.N[l]? = some z := by rfl)
    (hij : i ≠ j := by decide) (hil : i ≠ l := by decide) (hjl : j ≠ l := by decide) (hx : X.env.scope.names.lookup x = some .local := by rfl) (hy : X.env.scope.names.lookup y = some .local := by rfl) (hz : X.env.scope.names.lookup z = some .local := by rfl)
    (h1 : swappedStores [.Tuple [.Name x px, .Name y py, .Name z pz] kt pt] (.Tuple [a, b, c] k2 pt2) X.env = pure (some [x, y, z]) := by rfl) (h2 : swapsWithSole [.Tuple [.Name x px, .Name y py, .Name z pz] kt pt] (.Tuple [a, b, c] k2 pt2) pos.line X.env = pure false := by rfl) :
    PS X (.Assign [.Tuple [.Name x px, .Name y py, .Name z pz] kt pt] (.Tuple [a, b, c] k2 pt2) pos) (lowS (kx X bb) (aPar3 i j l t)) := (ps_par3 hc hN hi hj hl hij hil hjl hx hy hz ha h1 h2).weak fun D σ H ⟨τ, S, DA, R, so, q, k⟩ =>
  ⟨τ, S, _, R, so, q, fun vs H1 ds S1 so1 st1 r1 ⟨x, y, z, e, q1⟩ => by
    subst e
    cases r1 with
    | cons rx rr =>
      cases rr with
      | cons ry rr =>
        cases rr with
        | cons rz rr =>
          cases rr
          exact ⟨_, _, _, rfl, k.nx _ H1 _ S1 so1 st1 ((((R.step st1).set rx i).set ry j).set rz l) q1⟩⟩
end
theorem ex_tri {x y z : AV} {P : AV → AV → AV → Prop} : (∃ a b c, [x, y, z] = [a, b, c] ∧ P a b c) = P x y z := propext ⟨fun ⟨d, es, f, e, p⟩ => by cases e; exact p, fun p => ⟨x, y, z, rfl, p⟩⟩

/-! ### comprehensions over lists, with tests, over pairs; loops over tuples -/
theorem lstA_upd {S : Store} {d : AV} {xs : List AV} {D : Addr} {o : AO} (h : lstA S d = some xs) (hD : S D = none) : lstA (updS S D o) d = some xs := by
  cases d with
  | ref l =>
    have ne : l ≠ D := by
      rintro rfl
      have h' : (match S l with | some (.lst xs) => some xs | _ => none) = some xs := h
      rw [hD] at h'
      cases h'
    show (match updS S D o l with | some (.lst xs) => some xs | _ => none) = some xs
    rw [updS_ne ne]
    exact h
  | _ => exact h
def LcGoF (tt : AT) (te : AE) (j : Nat) (vs : List Nat) (τ : ASt) (Q : AK) (G : Store → Prop) (xs : List AV) (S1 : Store) : Prop := ∀ D, S1 D = none → ∃ I : Nat → List AV → Store → Prop, I 0 [] (updS S1 D .hid) ∧
  (∀ (i : Nat) x acc S2, xs[i]? = some x → I i acc S2 → G S2 ∧ tt ((wipeA τ vs).set j (some x)) S2 fun b S3 => if b = true then te ((wipeA τ vs).set j (some x)) S3 fun y S4 => acc.length < sizeLine ∧ I (i + 1) (acc ++ [y]) S4 else I (i + 1) acc S3) ∧
  (∀ acc S2, I xs.length acc S2 → G S2 ∧ Q (.lst acc) (dropS S2 D))
theorem aLcF_lst {ta : AE} {tt : AT} {te : AE} {j : Nat} {vs : List Nat} {τ : ASt} {S : Store} {Q : AK} : aLc (aiLst ta) j tt te vs τ S Q = ta τ S fun d S1 => ∃ xs, lstA S1 d = some xs ∧ LcGoF tt te j vs τ Q (fun S2 => lstA S2 d = some xs) xs S1 := rfl
theorem aLcF_tup {ta : AE} {tt : AT} {te : AE} {j : Nat} {vs : List Nat} {τ : ASt} {S : Store} {Q : AK} : aLc (aiTup ta) j tt te vs τ S Q = ta τ S fun d S1 => ∃ xs, d = .tup xs ∧ LcGoF tt te j vs τ Q (fun _ => True) xs S1 := rfl
theorem aLcF_rng {t : AA} {tt : AT} {te : AE} {j : Nat} {vs : List Nat} {τ : ASt} {S : Store} {Q : AK} : aLc (aiRng1 t) j tt te vs τ S Q = t τ S fun ds S1 => ∃ n : Int, ds = [.int n] ∧ -(2 ^ 62) ≤ n ∧ n < 2 ^ 62 ∧ LcGoF tt te j vs τ Q (fun _ => True) (rngA 0 n.toNat) S1 := rfl
section
variable {xs : List AV} {tt : AT} {te : AE} {j : Nat} {vs : List Nat} {τ : ASt} {S1 : Store} {Q : AK} {G : Store → Prop}
/-- pure all the way -/
theorem lcF_pure (p : AV → Bool) (f : AV → AV) (hl : xs.length ≤ sizeLine) (hG : ∀ D, S1 D = none → G (updS S1 D .hid)) (stepT : ∀ x ∈ xs, ∀ (Sx : Store) (Qb : Bool → Store → Prop), Qb (p x) Sx → tt ((wipeA τ vs).set j (some x)) Sx Qb)
    (stepE : ∀ x ∈ xs, p x = true → ∀ (Sx : Store) (Qe : AK), Qe (f x) Sx → te ((wipeA τ vs).set j (some x)) Sx Qe) (q : Q (.lst ((xs.filter p).map f)) S1) : LcGoF tt te j vs τ Q G xs S1 := by
  intro D hD
  refine ⟨fun i acc S2 => i ≤ xs.length ∧ acc = ((xs.take i).filter p).map f ∧ S2 = updS S1 D .hid, ⟨Nat.zero_le _, rfl, rfl⟩, fun i x acc S2 hx ⟨hi, ea, es⟩ => ?_, fun acc S2 ⟨hi, ea, es⟩ => ?_⟩
  · have hlt := (List.getElem?_eq_some_iff.mp hx).1
    have hm := List.mem_of_getElem? hx
    subst es
    refine ⟨hG D hD, stepT x hm _ _ ?_⟩
    cases hp : p x with
    | false =>
      rw [if_neg Bool.false_ne_true]
      refine ⟨hlt, ?_, rfl⟩
      rw [ea, List.take_add_one, hx]
      simp [hp]
    | true =>
      rw [if_pos rfl]
      refine stepE x hm hp _ _ ⟨?_, hlt, ?_, rfl⟩
      · have h1 : ((xs.take i).filter p).length ≤ (xs.take i).length := List.length_filter_le ..
        rw [List.length_take] at h1
        rw [ea, List.length_map]
        omega
      · rw [ea, List.take_add_one, hx]
        simp [hp]
  · subst es
    refine ⟨hG D hD, ?_⟩
    rw [ea, List.take_length, dropS_upd hD]
    exact q
theorem lcF_all (f : AV → AV) (hl : xs.length ≤ sizeLine) (hG : ∀ D, S1 D = none → G (updS S1 D .hid)) (stepE : ∀ x ∈ xs, ∀ (Sx : Store) (Qe : AK), Qe (f x) Sx → te ((wipeA τ vs).set j (some x)) Sx Qe) (q : Q (.lst (xs.map f)) S1) : LcGoF aYes te j vs τ Q G xs S1 :=
  lcF_pure (fun _ => true) f hl hG (fun x _ Sx Qb h => h) (fun x hx _ => stepE x hx) (by rw [List.filter_eq_self.mpr (fun _ _ => rfl)]; exact q)
end
theorem lcF_allM {α : Type} {xs : List α} {te : AE} {j : Nat} {vs : List Nat} {τ : ASt} {S1 : Store} {Q : AK} {G : Store → Prop} (g : α → AV) (f : α → AV) (hl : xs.length ≤ sizeLine) (hG : ∀ D, S1 D = none → G (updS S1 D .hid))
    (stepE : ∀ x ∈ xs, ∀ (Sx : Store) (Qe : AK), Qe (f x) Sx → te ((wipeA τ vs).set j (some (g x))) Sx Qe) (q : Q (.lst (xs.map f)) S1) : LcGoF aYes te j vs τ Q G (xs.map g) S1 := by
  intro D hD
  refine ⟨fun i acc S2 => i ≤ xs.length ∧ acc = (xs.take i).map f ∧ S2 = updS S1 D .hid, ⟨Nat.zero_le _, rfl, rfl⟩, fun i x acc S2 hx ⟨hi, ea, es⟩ => ?_, fun acc S2 ⟨hi, ea, es⟩ => ?_⟩
  · rw [List.getElem?_map] at hx
    cases hy : xs[i]? with
    | none => rw [hy] at hx; cases hx
    | some y =>
      rw [hy] at hx
      cases hx
      have hlt := (List.getElem?_eq_some_iff.mp hy).1
      have hm := List.mem_of_getElem? hy
      subst es
      refine ⟨hG D hD, ?_⟩
      unfold aYes
      simp only [if_true]
      refine stepE y hm _ _ ⟨?_, hlt, ?_, rfl⟩
      · rw [ea, List.length_map, List.length_take]
        omega
      · rw [ea, List.take_add_one, hy]
        simp
  · subst es
    rw [List.length_map] at ea
    refine ⟨hG D hD, ?_⟩
    rw [ea, List.take_length, dropS_upd hD]
    exact q
theorem lcF_pureM {α : Type} {xs : List α} {tt : AT} {te : AE} {j : Nat} {vs : List Nat} {τ : ASt} {S1 : Store} {Q : AK} {G : Store → Prop} (g : α → AV) (p : α → Bool) (f : α → AV) (hl : xs.length ≤ sizeLine) (hG : ∀ D, S1 D = none → G (updS S1 D .hid))
    (stepT : ∀ x ∈ xs, ∀ (Sx : Store) (Qb : Bool → Store → Prop), Qb (p x) Sx → tt ((wipeA τ vs).set j (some (g x))) Sx Qb)
    (stepE : ∀ x ∈ xs, p x = true → ∀ (Sx : Store) (Qe : AK), Qe (f x) Sx → te ((wipeA τ vs).set j (some (g x))) Sx Qe) (q : Q (.lst ((xs.filter p).map f)) S1) : LcGoF tt te j vs τ Q G (xs.map g) S1 := by
  intro D hD
  refine ⟨fun i acc S2 => i ≤ xs.length ∧ acc = ((xs.take i).filter p).map f ∧ S2 = updS S1 D .hid, ⟨Nat.zero_le _, rfl, rfl⟩, fun i x acc S2 hx ⟨hi, ea, es⟩ => ?_, fun acc S2 ⟨hi, ea, es⟩ => ?_⟩
  · rw [List.getElem?_map] at hx
    cases hy : xs[i]? with
    | none => rw [hy] at hx; cases hx
    | some y =>
      rw [hy] at hx
      cases hx
      have hlt := (List.getElem?_eq_some_iff.mp hy).1
      have hm := List.mem_of_getElem? hy
      subst es
      refine ⟨hG D hD, stepT y hm _ _ ?_⟩
      cases hp : p y with
      | false =>
        rw [if_neg Bool.false_ne_true]
        refine ⟨hlt, ?_, rfl⟩
        rw [ea, List.take_add_one, hy]
        simp [hp]
      | true =>
        rw [if_pos rfl]
        refine stepE y hm hp _ _ ⟨?_, hlt, ?_, rfl⟩
        · have h1 : ((xs.take i).filter p).length ≤ (xs.take i).length := List.length_filter_le ..
          rw [List.length_take] at h1
          rw [ea, List.length_map]
          omega
        · rw [ea, List.take_add_one, hy]
          simp [hp]
  · subst es
    rw [List.length_map] at ea
    refine ⟨hG D hD, ?_⟩
    rw [ea, List.take_length, dropS_upd hD]
    exact q
/-- the store being of no account -/
theorem lcF_free {xs : List AV} {te : AE} {j : Nat} {vs : List Nat} {τ : ASt} {S1 : Store} {Q : AK} {G : Store → Prop} (A : AV → Prop) (hl : xs.length ≤ sizeLine) (hG : ∀ S2, G S2) (step : ∀ x ∈ xs, ∀ (Sx : Store) (Qe : AK), (∀ y S', A y → Qe y S') → te ((wipeA τ vs).set j (some x)) Sx Qe)
    (fin : ∀ acc S', (∀ y ∈ acc, A y) → acc.length = xs.length → Q (.lst acc) S') : LcGoF aYes te j vs τ Q G xs S1 := by
  intro D hD
  refine ⟨fun i acc S2 => acc.length = i ∧ ∀ y ∈ acc, A y, ⟨rfl, fun y h => by cases h⟩, fun i x acc S2 hx ⟨hi, ha⟩ => ⟨hG _, ?_⟩, fun acc S2 ⟨hi, ha⟩ => ⟨hG _, fin acc _ ha hi⟩⟩
  have hlt := (List.getElem?_eq_some_iff.mp hx).1
  unfold aYes
  simp only [if_true]
  refine step x (List.mem_of_getElem? hx) _ _ fun y S' hy => ⟨by omega, by rw [List.length_append, List.length_singleton, hi], fun w hw => ?_⟩
  rcases List.mem_append.mp hw with h | h
  · exact ha w h
  · cases List.mem_singleton.mp h; exact hy
/-- drawn things -/
theorem lcF_pot {Pt : Type} {xs : List AV} {te : AE} {j : Nat} {vs : List Nat} {τ : ASt} {S1 : Store} {Q : AK} {p : Addr} {G : Store → Prop} (po : Pt → AO) {pt : Pt} (I : Nat → Pt → Prop) (hp : S1 p = some (po pt)) (h0 : I 0 pt) (A : AV → Prop) (hl : xs.length ≤ sizeLine) (hG : ∀ S2, G S2)
    (step : ∀ k x pt' Sx (Qe : AK), xs[k]? = some x → k < xs.length → I k pt' → Sx p = some (po pt') → (∀ y pt2, A y → I (k + 1) pt2 → Qe y (updS Sx p (po pt2))) → te ((wipeA τ vs).set j (some x)) Sx Qe)
    (fin : ∀ acc pt', acc.length = xs.length → (∀ y ∈ acc, A y) → I xs.length pt' → Q (.lst acc) (updS S1 p (po pt'))) : LcGoF aYes te j vs τ Q G xs S1 := by
  intro D hD
  have ne : p ≠ D := by rintro rfl; rw [hp] at hD; cases hD
  refine ⟨fun i acc S2 => acc.length = i ∧ (∀ y ∈ acc, A y) ∧ ∃ pt', I i pt' ∧ S2 = updS (updS S1 p (po pt')) D .hid, ⟨rfl, (fun y h => by cases h), pt, h0, by rw [updS_self hp]⟩, fun i x acc S2 hx ⟨hi, ha, pt', hI, e⟩ => ⟨hG _, ?_⟩, fun acc S2 ⟨hi, ha, pt', hI, e⟩ => ⟨hG _, ?_⟩⟩
  · subst e
    have hlt := (List.getElem?_eq_some_iff.mp hx).1
    unfold aYes
    simp only [if_true]
    refine step i x pt' _ _ hx hlt hI (by rw [updS_ne ne, updS_same]) fun y pt2 hy hI2 => ⟨by omega, by rw [List.length_append, List.length_singleton, hi], fun w hw => ?_, pt2, hI2, ?_⟩
    · rcases List.mem_append.mp hw with h | h
      · exact ha w h
      · cases List.mem_singleton.mp h; exact hy
    · rw [← updS_comm ne, updS_updS]
  · subst e
    rw [dropS_upd (by rw [updS_ne (Ne.symm ne)]; exact hD)]
    exact fin acc pt' hi ha hI
/-- over pairs -/
def LcGoP (tt : AT) (te : AE) (j k : Nat) (vs : List Nat) (τ : ASt) (Q : AK) (G : Store → Prop) (xs : List AV) (S1 : Store) : Prop := ∀ D, S1 D = none → ∃ I : Nat → List AV → Store → Prop, I 0 [] (updS S1 D .hid) ∧
  (∀ (i : Nat) x acc S2, xs[i]? = some x → I i acc S2 → G S2 ∧ ∃ d1 d2, x = .tup [d1, d2] ∧ tt (((wipeA τ vs).set j (some d1)).set k (some d2)) S2 fun b S3 => if b = true then te (((wipeA τ vs).set j (some d1)).set k (some d2)) S3 fun y S4 => acc.length < sizeLine ∧ I (i + 1) (acc ++ [y]) S4 else I (i + 1) acc S3) ∧
  (∀ acc S2, I xs.length acc S2 → G S2 ∧ Q (.lst acc) (dropS S2 D))
theorem aLcP_lst {ta : AE} {tt : AT} {te : AE} {j k : Nat} {vs : List Nat} {τ : ASt} {S : Store} {Q : AK} : aLcP (aiLst ta) j k tt te vs τ S Q = ta τ S fun d S1 => ∃ xs, lstA S1 d = some xs ∧ LcGoP tt te j k vs τ Q (fun S2 => lstA S2 d = some xs) xs S1 := rfl
theorem aLcP_tup {ta : AE} {tt : AT} {te : AE} {j k : Nat} {vs : List Nat} {τ : ASt} {S : Store} {Q : AK} : aLcP (aiTup ta) j k tt te vs τ S Q = ta τ S fun d S1 => ∃ xs, d = .tup xs ∧ LcGoP tt te j k vs τ Q (fun _ => True) xs S1 := rfl
theorem aLcP_enum {t : AA} {tt : AT} {te : AE} {j k : Nat} {vs : List Nat} {τ : ASt} {S : Store} {Q : AK} : aLcP (aiEnum t) j k tt te vs τ S Q = t τ S fun ds S1 => ∃ d xs, ds = [d] ∧ lstA S1 d = some xs ∧ LcGoP tt te j k vs τ Q (fun S2 => lstA S2 d = some xs) (enumA xs) S1 := rfl
section
variable {α : Type} {xs : List α} {tt : AT} {te : AE} {j k : Nat} {vs : List Nat} {τ : ASt} {S1 : Store} {Q : AK} {G : Store → Prop}
theorem lcP_pure (u v : α → AV) (p : α → Bool) (f : α → AV) (hl : xs.length ≤ sizeLine) (hG : ∀ D, S1 D = none → G (updS S1 D .hid)) (stepT : ∀ x ∈ xs, ∀ (Sx : Store) (Qb : Bool → Store → Prop), Qb (p x) Sx → tt (((wipeA τ vs).set j (some (u x))).set k (some (v x))) Sx Qb)
    (stepE : ∀ x ∈ xs, p x = true → ∀ (Sx : Store) (Qe : AK), Qe (f x) Sx → te (((wipeA τ vs).set j (some (u x))).set k (some (v x))) Sx Qe) (q : Q (.lst ((xs.filter p).map f)) S1) : LcGoP tt te j k vs τ Q G (xs.map fun x => .tup [u x, v x]) S1 := by
  intro D hD
  refine ⟨fun i acc S2 => i ≤ xs.length ∧ acc = ((xs.take i).filter p).map f ∧ S2 = updS S1 D .hid, ⟨Nat.zero_le _, rfl, rfl⟩, fun i x acc S2 hx ⟨hi, ea, es⟩ => ?_, fun acc S2 ⟨hi, ea, es⟩ => ?_⟩
  · rw [List.getElem?_map] at hx
    cases hy : xs[i]? with
    | none => rw [hy] at hx; cases hx
    | some y =>
      rw [hy] at hx
      cases hx
      have hlt := (List.getElem?_eq_some_iff.mp hy).1
      have hm := List.mem_of_getElem? hy
      subst es
      refine ⟨hG D hD, _, _, rfl, stepT y hm _ _ ?_⟩
      cases hp : p y with
      | false =>
        rw [if_neg Bool.false_ne_true]
        refine ⟨hlt, ?_, rfl⟩
        rw [ea, List.take_add_one, hy]
        simp [hp]
      | true =>
        rw [if_pos rfl]
        refine stepE y hm hp _ _ ⟨?_, hlt, ?_, rfl⟩
        · have h1 : ((xs.take i).filter p).length ≤ (xs.take i).length := List.length_filter_le ..
          rw [List.length_take] at h1
          rw [ea, List.length_map]
          omega
        · rw [ea, List.take_add_one, hy]
          simp [hp]
  · subst es
    rw [List.length_map] at ea
    refine ⟨hG D hD, ?_⟩
    rw [ea, List.take_length, dropS_upd hD]
    exact q
end
theorem aFor_tup {ta : AE} {ag : AG} {tb : AS} {D : AEnds} {τ : ASt} {S : Store} : aFor (aiTup ta) ag tb D τ S = ta τ S fun d S1 => ∃ xs, d = .tup xs ∧ ForGo ag tb D τ xs S1 := rfl
/-- a loop over a list, all the way -/
def ForGoL (ag : AG) (tb : AS) (D : AEnds) (τ : ASt) (G : Store → Prop) (xs : List AV) (S1 : Store) : Prop := ∃ I : Nat → ASt → Store → Prop, I 0 τ S1 ∧
  (∀ (i : Nat) x τ2 S2, xs[i]? = some x → I i τ2 S2 → G S2 ∧ ag x τ2 S2 fun τ3 S3 => tb { D with nx := I (i + 1), ct := I (i + 1), bk := D.nx } τ3 S3) ∧ (∀ τ2 S2, I xs.length τ2 S2 → G S2 ∧ D.nx τ2 S2)
theorem aFor_lst {ta : AE} {ag : AG} {tb : AS} {D : AEnds} {τ : ASt} {S : Store} : aFor (aiLst ta) ag tb D τ S = ta τ S fun d S1 => ∃ xs, lstA S1 d = some xs ∧ ForGoL ag tb D τ (fun S2 => lstA S2 d = some xs) xs S1 := rfl
theorem aFor_enum {t : AA} {ag : AG} {tb : AS} {D : AEnds} {τ : ASt} {S : Store} : aFor (aiEnum t) ag tb D τ S = t τ S fun ds S1 => ∃ d xs, ds = [d] ∧ lstA S1 d = some xs ∧ ForGoL ag tb D τ (fun S2 => lstA S2 d = some xs) (enumA xs) S1 := rfl
theorem ForGoL.of {ag : AG} {tb : AS} {D : AEnds} {τ : ASt} {G : Store → Prop} {xs : List AV} {S1 : Store} (I : Nat → ASt → Store → Prop) (h0 : I 0 τ S1)
    (step : ∀ (i : Nat) x τ2 S2, xs[i]? = some x → i < xs.length → I i τ2 S2 → G S2 ∧ ag x τ2 S2 fun τ3 S3 => tb { D with nx := I (i + 1), ct := I (i + 1), bk := D.nx } τ3 S3) (fin : ∀ τ2 S2, I xs.length τ2 S2 → G S2 ∧ D.nx τ2 S2) : ForGoL ag tb D τ G xs S1 :=
  ⟨I, h0, fun i x τ2 S2 hx hi => step i x τ2 S2 hx (List.getElem?_eq_some_iff.mp hx).1 hi, fin⟩

/-! ### equality of lists of ints, of tuples of truths -/
theorem flat_ints : ∀ (ns : List Int), flatAs (ns.map .int) = true
  | [] => rfl
  | _ :: ns => flat_ints ns
theorem lay_ints : ∀ (ns : List Int), PyData.canLayAll0 (toDs (ns.map .int)) = true
  | [] => rfl
  | n :: ns => by
    show (PyData.canLay0 (.int n) && PyData.canLayAll0 (toDs (ns.map .int))) = true
    rw [lay_ints ns, Bool.and_true]
    rfl
theorem depth_ints : ∀ (ns : List Int), PyData.depthAll (toDs (ns.map .int)) = 0
  | [] => rfl
  | n :: ns => by
    show max (PyData.depth (.int n)) (PyData.depthAll (toDs (ns.map .int))) = 0
    rw [depth_ints ns]
    rfl
theorem eqv_ints : ∀ (ns ms : List Int), PyData.eqvAll (toDs (ns.map .int)) (toDs (ms.map .int)) = decide (ns = ms)
  | [], [] => by show PyData.eqvAll [] [] = _; unfold PyData.eqvAll; simp
  | [], m :: ms => by show PyData.eqvAll [] (_ :: _) = _; unfold PyData.eqvAll; simp
  | n :: ns, [] => by show PyData.eqvAll (_ :: _) [] = _; unfold PyData.eqvAll; simp
  | n :: ns, m :: ms => by
    show PyData.eqvAll (.int n :: toDs (ns.map .int)) (.int m :: toDs (ms.map .int)) = _
    unfold PyData.eqvAll
    rw [eqv_ints ns ms]
    unfold PyData.eqv
    by_cases h : n = m <;> by_cases h2 : ns = ms <;> simp [h, h2]
theorem eqA_ints {ns ms : List Int} {S : Store} : eqA (.lst (ns.map .int)) (.lst (ms.map .int)) S = ⟨True, .bl (decide (ns = ms))⟩ := by
  have ok : ∀ ns : List Int, okD S (.lst (ns.map .int)) := fun ns => ⟨flat_ints ns, by
    show SeqAt.shaped (.list (toDs (ns.map .int))) = true
    unfold SeqAt.shaped PyData.canLay0 PyData.depth
    rw [lay_ints, depth_ints]
    rfl⟩
  refine ans_tt ⟨ok ns, ok ms⟩ ?_
  show AV.bl (PyData.eqv (.list (toDs (ns.map .int))) (.list (toDs (ms.map .int)))) = _
  unfold PyData.eqv
  rw [eqv_ints]
theorem map_int_inj {ns ms : List Nat} : (ns.map fun n : Nat => (n : Int)) = (ms.map fun n : Nat => (n : Int)) ↔ ns = ms := by
  refine ⟨fun h => ?_, fun h => by rw [h]⟩
  have := congrArg (List.map Int.toNat) h
  rw [List.map_map, List.map_map] at this
  have e : (Int.toNat ∘ fun n : Nat => (n : Int)) = id := by funext n; exact Int.toNat_natCast n
  rw [e, List.map_id, List.map_id] at this
  exact this
theorem eqA_nats {ns ms : List Nat} {S : Store} : eqA (.lst (ns.map fun n => .int (n : Nat))) (.lst (ms.map fun n => .int (n : Nat))) S = ⟨True, .bl (decide (ns = ms))⟩ := by
  have e : ∀ l : List Nat, (l.map fun n => AV.int (n : Nat)) = (l.map fun n : Nat => (n : Int)).map .int := fun l => by rw [List.map_map]; rfl
  rw [e ns, e ms, eqA_ints]
  exact ans_tt trivial (congrArg AV.bl (decide_eq_decide.mpr map_int_inj))
theorem anyA_eq {α : Type} (l : List α) (f : α → Bool) (S : Store) : anyA (.lst (l.map fun c => AV.bl (f c))) S = ⟨True, .bl (l.any f)⟩ := by
  obtain ⟨a, b⟩ := anyA_map l f S
  have e : anyA (.lst (l.map fun c => AV.bl (f c))) S = ⟨(anyA (.lst (l.map fun c => AV.bl (f c))) S).ok, (anyA (.lst (l.map fun c => AV.bl (f c))) S).v⟩ := rfl
  rw [e, b, eq_true a]
theorem allA_eq {α : Type} (l : List α) (f : α → Bool) (S : Store) : allA (.lst (l.map fun c => AV.bl (f c))) S = ⟨True, .bl (l.all f)⟩ := by
  obtain ⟨a, b⟩ := allA_map l f S
  have e : allA (.lst (l.map fun c => AV.bl (f c))) S = ⟨(allA (.lst (l.map fun c => AV.bl (f c))) S).ok, (allA (.lst (l.map fun c => AV.bl (f c))) S).v⟩ := rfl
  rw [e, b, eq_true a]
theorem bc_or4 {a b c d : Bool} {P R : Prop} : bc a (bc b P (bc c (bc d P R) R)) (bc c (bc d P R) R) = bc (a && b || c && d) P R := by
  cases a <;> cases b <;> cases c <;> cases d <;> rfl
theorem nat_ne {a b : Nat} : (!decide ((a : Int) = (b : Int))) = (a != b) := by
  by_cases h : a = b
  · subst h; simp
  · have : (a : Int) ≠ b := fun z => h (Int.ofNat.inj z)
    simp [h, this]
theorem nat_eq {a b : Nat} : decide ((a : Int) = (b : Int)) = decide (a = b) := decide_eq_decide.mpr ⟨fun h => Int.ofNat.inj h, fun h => by rw [h]⟩
theorem nat_lt {a b : Nat} : decide ((a : Int) < (b : Int)) = decide (a < b) := decide_eq_decide.mpr Int.ofNat_lt
theorem nat_le {a b : Nat} : decide ((a : Int) ≤ (b : Int)) = decide (a ≤ b) := decide_eq_decide.mpr Int.ofNat_le
end L3

set_option Elab.async false
set_option linter.all false
set_option maxRecDepth 100000
set_option maxHeartbeats 1000000
set_option autoImplicit false
/-! ValM: values as the package means them, over AV; what loops over a stack of them reckon. -/
namespace Vm
open PySem L2 L3

def chB (c : Nat) : Bool := (decide (32 ≤ c) && decide (c ≤ 126)) || decide (c = 10)
def leafV : AV → Bool
  | .non => true
  | .int i => decide (-1000000000000000000 ≤ i) && decide (i ≤ 1000000000000000000)
  | .str z => decide (z.length ≤ 100000) && z.cps.toList.all chB
  | _ => false
mutual
/-- a value of at most this depth -/
def isVal : AV → Nat → Bool
  | .tup xs, k => decide (k ≠ 0) && isVals xs (k - 1)
  | .non, _ => leafV .non
  | .bl b, _ => leafV (.bl b)
  | .int i, _ => leafV (.int i)
  | .str z, _ => leafV (.str z)
  | .lst xs, _ => false
  | .rol xs, _ => false
  | .ref a, _ => false
  | .ty n, _ => false
def isVals : List AV → Nat → Bool
  | [], _ => true
  | x :: xs, k => isVal x k && isVals xs k
end
mutual
def cnt : AV → Nat
  | .str z => 1 + z.length
  | .tup xs => 1 + cnts xs
  | .lst xs => 1 + cnts xs
  | _ => 1
def cnts : List AV → Nat
  | [] => 0
  | x :: xs => cnt x + cnts xs
end
mutual
/-- data whose texts are short and whose signs are signs -/
def tame : AV → Bool
  | .str z => PyData.strOk z
  | .tup xs => tames xs
  | .lst xs => tames xs
  | .non => true
  | .bl _ => true
  | .int _ => true
  | _ => false
def tames : List AV → Bool
  | [] => true
  | x :: xs => tame x && tames xs
end
theorem isVals_all (k : Nat) : ∀ xs : List AV, isVals xs k = xs.all fun x => isVal x k
  | [] => rfl
  | x :: xs => by rw [isVals, List.all_cons, isVals_all k xs]
theorem tames_all : ∀ xs : List AV, tames xs = xs.all tame
  | [] => rfl
  | x :: xs => by rw [tames, List.all_cons, tames_all xs]
theorem cnts_sum : ∀ xs : List AV, cnts xs = (xs.map cnt).sum
  | [] => rfl
  | x :: xs => by rw [cnts, List.map_cons, List.sum_cons, cnts_sum xs]
theorem cnts_app : ∀ a b : List AV, cnts (a ++ b) = cnts a + cnts b
  | [], b => (Nat.zero_add _).symm
  | p :: a, b => by rw [List.cons_append, cnts, cnts, cnts_app a b]; omega
theorem isVals_app {k : Nat} {a b : List AV} : isVals (a ++ b) k = (isVals a k && isVals b k) := by
  rw [isVals_all, isVals_all, isVals_all, List.all_append]
theorem flatAs_all : ∀ xs : List AV, flatAs xs = xs.all flatA
  | [] => rfl
  | x :: xs => by rw [flatAs, List.all_cons, flatAs_all xs]
theorem cnt_pos : ∀ d : AV, 1 ≤ cnt d := fun d => by cases d <;> simp only [cnt] <;> omega
theorem len_cnts : ∀ xs : List AV, xs.length ≤ cnts xs
  | [] => Nat.le_refl _
  | x :: xs => by have := len_cnts xs; have := cnt_pos x; simp only [cnts, List.length_cons]; omega
mutual
theorem flat_tame : ∀ d : AV, tame d = true → flatA d = true
  | .non, _ => rfl
  | .bl _, _ => rfl
  | .int _, _ => rfl
  | .str _, _ => rfl
  | .tup xs, h => flats_tame xs h
  | .lst xs, h => flats_tame xs h
  | .rol xs, h => by cases h
  | .ref _, h => by cases h
  | .ty _, h => by cases h
theorem flats_tame : ∀ xs : List AV, tames xs = true → flatAs xs = true
  | [], _ => rfl
  | x :: xs, h => by
    have h := Bool.and_eq_true_iff.mp h
    exact Bool.and_eq_true_iff.mpr ⟨flat_tame x h.1, flats_tame xs h.2⟩
end
theorem ch_lt {c : Nat} (h : chB c = true) : c < 0x110000 := by
  simp only [chB, Bool.or_eq_true, Bool.and_eq_true, decide_eq_true_eq] at h
  omega
mutual
theorem val_tame : ∀ (d : AV) (k : Nat), isVal d k = true → tame d = true
  | .non, _, _ => rfl
  | .bl _, _, h => by cases h
  | .int _, _, _ => rfl
  | .str z, k, h => by
    have h : (decide (z.length ≤ 100000) && z.cps.toList.all chB) = true := h
    rw [Bool.and_eq_true_iff, decide_eq_true_eq, List.all_eq_true] at h
    have e : PyData.strOk z = true := by
      unfold PyData.strOk
      rw [← Array.all_toList, List.all_eq_true]
      exact fun c hc => decide_eq_true (ch_lt (h.2 c hc))
    exact e
  | .tup xs, k, h => vals_tame xs (k - 1) (Bool.and_eq_true_iff.mp h).2
  | .lst xs, _, h => by cases h
  | .rol xs, _, h => by cases h
  | .ref _, _, h => by cases h
  | .ty _, _, h => by cases h
theorem vals_tame : ∀ (xs : List AV) (k : Nat), isVals xs k = true → tames xs = true
  | [], _, _ => rfl
  | x :: xs, k, h => by
    have h := Bool.and_eq_true_iff.mp h
    exact Bool.and_eq_true_iff.mpr ⟨val_tame x k h.1, vals_tame xs k h.2⟩
end
mutual
theorem val_up : ∀ (d : AV) (j k : Nat), j ≤ k → isVal d j = true → isVal d k = true
  | .non, _, _, _, _ => rfl
  | .bl _, _, _, _, h => by cases h
  | .int _, _, _, _, h => h
  | .str z, _, _, _, h => h
  | .tup xs, j, k, hjk, h => by
    have h : (decide (j ≠ 0) && isVals xs (j - 1)) = true := h
    rw [Bool.and_eq_true_iff, decide_eq_true_eq] at h
    show (decide (k ≠ 0) && isVals xs (k - 1)) = true
    rw [vals_up xs (j - 1) (k - 1) (by omega) h.2, decide_eq_true (by omega : k ≠ 0)]
    rfl
  | .lst xs, _, _, _, h => by cases h
  | .rol xs, _, _, _, h => by cases h
  | .ref _, _, _, _, h => by cases h
  | .ty _, _, _, _, h => by cases h
theorem vals_up : ∀ (xs : List AV) (j k : Nat), j ≤ k → isVals xs j = true → isVals xs k = true
  | [], _, _, _, _ => rfl
  | x :: xs, j, k, hjk, h => by
    have h := Bool.and_eq_true_iff.mp h
    exact Bool.and_eq_true_iff.mpr ⟨val_up x j k hjk h.1, vals_up xs j k hjk h.2⟩
end
theorem int_short (i : Int) (h1 : -1000000000000000000 ≤ i) (h2 : i ≤ 1000000000000000000) : (PyData.shown (.int i)).length ≤ 20 := by
  have r : ∀ n : Nat, n < 10 ^ 19 → (Nat.repr n).length ≤ 19 := fun n hn => (Nat.length_repr_le_iff (n := n) (by decide : 0 < 19)).mpr hn
  show (Str.ofString (toString i)).length ≤ 20
  rw [ofString_length]
  cases i with
  | ofNat n =>
    have h3 : (n : Int) ≤ 1000000000000000000 := h2
    have := r n (by omega)
    show (Nat.repr n).length ≤ 20
    omega
  | negSucc n =>
    have := r (n + 1) (by omega)
    show ("-" ++ Nat.repr (n + 1)).length ≤ 20
    rw [String.length_append]
    have : ("-" : String).length = 1 := rfl
    omega
mutual
theorem val_lay : ∀ (d : AV) (k : Nat), isVal d k = true → (toD d).canLay0 = true ∧ (toD d).depth ≤ k ∧ (toD d).leavesShort 20 = true
  | .non, _, _ => ⟨rfl, Nat.zero_le _, by decide +kernel⟩
  | .bl _, _, h => by cases h
  | .int i, _, h => by
    have h : (decide (-1000000000000000000 ≤ i) && decide (i ≤ 1000000000000000000)) = true := h
    rw [Bool.and_eq_true_iff, decide_eq_true_eq, decide_eq_true_eq] at h
    exact ⟨rfl, Nat.zero_le _, decide_eq_true (int_short i h.1 h.2)⟩
  | .str z, k, h => by
    have t := val_tame (.str z) k h
    refine ⟨t, Nat.zero_le _, ?_⟩
    show (z.cps.toList.all fun c => decide (c < 16 ^ 8)) = true
    rw [List.all_eq_true]
    intro c hc
    have h : (decide (z.length ≤ 100000) && z.cps.toList.all chB) = true := h
    rw [Bool.and_eq_true_iff, List.all_eq_true] at h
    have := ch_lt (h.2 c hc)
    exact decide_eq_true (by omega)
  | .tup xs, k, h => by
    have h : (decide (k ≠ 0) && isVals xs (k - 1)) = true := h
    rw [Bool.and_eq_true_iff, decide_eq_true_eq] at h
    obtain ⟨a, b, c⟩ := vals_lay xs (k - 1) h.2
    refine ⟨a, ?_, c⟩
    show PyData.depthAll (toDs xs) + 1 ≤ k
    omega
  | .lst xs, _, h => by cases h
  | .rol xs, _, h => by cases h
  | .ref _, _, h => by cases h
  | .ty _, _, h => by cases h
theorem vals_lay : ∀ (xs : List AV) (k : Nat), isVals xs k = true → PyData.canLayAll0 (toDs xs) = true ∧ PyData.depthAll (toDs xs) ≤ k ∧ PyData.leavesShortAll 20 (toDs xs) = true
  | [], _, _ => ⟨rfl, Nat.zero_le _, by decide +kernel⟩
  | x :: xs, k, h => by
    have h := Bool.and_eq_true_iff.mp h
    obtain ⟨a, b, c⟩ := val_lay x k h.1
    obtain ⟨a2, b2, c2⟩ := vals_lay xs k h.2
    refine ⟨?_, ?_, ?_⟩
    · show (PyData.canLay0 (toD x) && PyData.canLayAll0 (toDs xs)) = true
      rw [a, a2]; rfl
    · show max (PyData.depth (toD x)) (PyData.depthAll (toDs xs)) ≤ k
      omega
    · show (PyData.leavesShort 20 (toD x) && PyData.leavesShortAll 20 (toDs xs)) = true
      rw [c, c2]; rfl
end
mutual
theorem show_val : ∀ (d : AV) (k : Nat), isVal d k = true → (toD d).showable = true ∧ (toD d).hasDict = false
  | .non, _, _ => ⟨rfl, rfl⟩
  | .bl _, _, h => by cases h
  | .int i, _, h => by
    have h : (decide (-1000000000000000000 ≤ i) && decide (i ≤ 1000000000000000000)) = true := h
    rw [Bool.and_eq_true_iff, decide_eq_true_eq, decide_eq_true_eq] at h
    refine ⟨decide_eq_true ?_, rfl⟩
    have : i.natAbs < 2 ^ 60 := by omega
    rcases Nat.eq_zero_or_pos i.natAbs with e | e
    · rw [e]; decide
    · exact Nat.lt_trans ((Nat.log2_lt (by omega)).mpr this) (by decide)
  | .str z, k, h => ⟨rfl, rfl⟩
  | .tup xs, k, h => by
    have h : (decide (k ≠ 0) && isVals xs (k - 1)) = true := h
    rw [Bool.and_eq_true_iff, decide_eq_true_eq] at h
    exact show_vals xs (k - 1) h.2
  | .lst xs, _, h => by cases h
  | .rol xs, _, h => by cases h
  | .ref _, _, h => by cases h
  | .ty _, _, h => by cases h
theorem show_vals : ∀ (xs : List AV) (k : Nat), isVals xs k = true → PyData.showableAll (toDs xs) = true ∧ PyData.hasDictAll (toDs xs) = false
  | [], _, _ => ⟨rfl, rfl⟩
  | x :: xs, k, h => by
    have h := Bool.and_eq_true_iff.mp h
    obtain ⟨a, b⟩ := show_val x k h.1
    obtain ⟨a2, b2⟩ := show_vals xs k h.2
    refine ⟨?_, ?_⟩
    · show (PyData.showable (toD x) && PyData.showableAll (toDs xs)) = true
      rw [a, a2]; rfl
    · show (PyData.hasDict (toD x) || PyData.hasDictAll (toDs xs)) = false
      rw [b, b2]; rfl
end
mutual
theorem bulk_val : ∀ (d : AV) (k : Nat), isVal d k = true → (toD d).bulk + 1 ≤ cnt d
  | .non, _, _ => Nat.le_refl _
  | .bl _, _, h => by cases h
  | .int i, _, h => Nat.le_refl _
  | .str z, k, h => by
    show z.cps.size + 1 ≤ 1 + z.length
    have : z.length = z.cps.size := rfl
    omega
  | .tup xs, k, h => by
    have h : (decide (k ≠ 0) && isVals xs (k - 1)) = true := h
    rw [Bool.and_eq_true_iff] at h
    have := bulk_vals xs (k - 1) h.2
    show PyData.bulkAll (toDs xs) + 1 ≤ 1 + cnts xs
    omega
  | .lst xs, _, h => by cases h
  | .rol xs, _, h => by cases h
  | .ref _, _, h => by cases h
  | .ty _, _, h => by cases h
theorem bulk_vals : ∀ (xs : List AV) (k : Nat), isVals xs k = true → PyData.bulkAll (toDs xs) ≤ cnts xs
  | [], _, _ => Nat.le_refl _
  | x :: xs, k, h => by
    have h := Bool.and_eq_true_iff.mp h
    have a := bulk_val x k h.1
    have b := bulk_vals xs k h.2
    show PyData.bulk (toD x) + 1 + PyData.bulkAll (toDs xs) ≤ cnt x + cnts xs
    omega
end
/-- a value's text fits -/
theorem shown_val {d : AV} {k : Nat} (h : isVal d k = true) (hc : cnt d ≤ 700000) : (toD d).shown.length ≤ sizeLine := by
  have a := PyData.shown_le_bulk 20 (by decide) (toD d) (val_lay d k h).2.2
  have b := bulk_val d k h
  have : sizeLine = 16777216 := by decide +kernel
  omega
theorem repr_ok {d : AV} {k : Nat} (S : Store) (h : isVal d k = true) (hk : k ≤ 60) (hc : cnt d ≤ 700000) : (reprA d S).ok ∧ (reprA d S).v = .str (toD d).shown := by
  have e : derefA S d = d := by cases d <;> first | rfl | cases h
  have e2 : datA S d = toD d := by unfold datA; rw [e]
  unfold reprA
  rw [e, e2]
  obtain ⟨a, b⟩ := show_val d k h
  have := (val_lay d k h).2.1
  exact ⟨⟨flat_tame d (val_tame d k h), a, b, by omega, shown_val h hc⟩, rfl⟩
theorem repr_bl {b : Bool} (S : Store) : (reprA (.bl b) S).ok ∧ (reprA (.bl b) S).v = .str (toD (.bl b)).shown := by
  refine ⟨⟨rfl, rfl, rfl, Nat.zero_le _, ?_⟩, rfl⟩
  show (PyData.shown (.bool b)).length ≤ sizeLine
  cases b <;> decide +kernel
/-! ### seals -/
/-- what may stand at == -/
def lay (d : AV) : Bool := (toD d).canLay0 && decide ((toD d).depth ≤ 60)
theorem lay_shaped {d : AV} (h : lay d = true) : SeqAt.shaped (toD d) = true := by
  unfold lay at h
  unfold SeqAt.shaped
  rw [Bool.and_eq_true_iff, decide_eq_true_eq] at h ⊢
  exact ⟨h.1, by omega⟩
theorem val_lays {d : AV} {k : Nat} (h : isVal d k = true) (hk : k ≤ 60) : lay d = true := by
  obtain ⟨a, b, _⟩ := val_lay d k h
  unfold lay
  rw [a, decide_eq_true (by omega)]
  rfl
def nmB : AV → Bool
  | .str z => (decide (1 ≤ z.length) && decide (z.length ≤ 8)) && z.cps.toList.all fun c => decide (c ∈ ("abcdefghijklmnopqrstuvwxyz" : Str).cps.toList)
  | _ => false
def wordB (w : Str) : AV → Bool
  | .str z => decide (z = w)
  | _ => false
def sealB : AV → Bool
  | .tup [x, y, _] => wordB "seal" x && nmB y
  | _ => false
mutual
def sb (w : Bool) : AV → List AV
  | .tup xs => (if sealB (.tup xs) = true then [.tup xs] else []) ++ (if (w || !sealB (.tup xs)) = true then sbs w xs else [])
  | _ => []
def sbs (w : Bool) : List AV → List AV
  | [] => []
  | x :: xs => sb w x ++ sbs w xs
end
theorem sbs_app (w : Bool) : ∀ xs ys : List AV, sbs w (xs ++ ys) = sbs w xs ++ sbs w ys
  | [], _ => rfl
  | x :: xs, ys => by rw [List.cons_append, sbs, sbs, sbs_app w xs ys, List.append_assoc]
mutual
theorem sb_in (w : Bool) : ∀ (d : AV) (k : Nat), isVal d k = true → ∀ s ∈ sb w d, isVal s k = true ∧ cnt s ≤ cnt d
  | .tup xs, k, h, s, hs => by
    have h' : (decide (k ≠ 0) && isVals xs (k - 1)) = true := h
    rw [Bool.and_eq_true_iff, decide_eq_true_eq] at h'
    rw [sb, List.mem_append] at hs
    rcases hs with hs | hs
    · split at hs
      · cases List.mem_singleton.mp hs; exact ⟨h, Nat.le_refl _⟩
      · cases hs
    · split at hs
      · obtain ⟨a, b⟩ := sbs_in w xs (k - 1) h'.2 s hs
        refine ⟨val_up s (k - 1) k (by omega) a, ?_⟩
        show cnt s ≤ 1 + cnts xs
        omega
      · cases hs
  | .non, _, _, _, hs => by cases hs
  | .bl _, _, _, _, hs => by cases hs
  | .int _, _, _, _, hs => by cases hs
  | .str _, _, _, _, hs => by cases hs
  | .lst _, _, _, _, hs => by cases hs
  | .rol _, _, _, _, hs => by cases hs
  | .ref _, _, _, _, hs => by cases hs
  | .ty _, _, _, _, hs => by cases hs
theorem sbs_in (w : Bool) : ∀ (xs : List AV) (k : Nat), isVals xs k = true → ∀ s ∈ sbs w xs, isVal s k = true ∧ cnt s ≤ cnts xs
  | [], _, _, _, hs => by cases hs
  | x :: xs, k, h, s, hs => by
    have h := Bool.and_eq_true_iff.mp h
    rw [sbs, List.mem_append] at hs
    show _ ∧ cnt s ≤ cnt x + cnts xs
    rcases hs with hs | hs
    · obtain ⟨a, b⟩ := sb_in w x k h.1 s hs
      exact ⟨a, by omega⟩
    · obtain ⟨a, b⟩ := sbs_in w xs k h.2 s hs
      exact ⟨a, by omega⟩
end
mutual
theorem sb_len (w : Bool) : ∀ d : AV, (sb w d).length ≤ cnt d
  | .tup xs => by
    have := sbs_len w xs
    rw [sb, List.length_append]
    show _ ≤ 1 + cnts xs
    split <;> split <;> simp only [List.length_cons, List.length_nil] <;> omega
  | .non => Nat.zero_le _
  | .bl _ => Nat.zero_le _
  | .int _ => Nat.zero_le _
  | .str _ => Nat.zero_le _
  | .lst _ => Nat.zero_le _
  | .rol _ => Nat.zero_le _
  | .ref _ => Nat.zero_le _
  | .ty _ => Nat.zero_le _
theorem sbs_len (w : Bool) : ∀ xs : List AV, (sbs w xs).length ≤ cnts xs
  | [] => Nat.zero_le _
  | x :: xs => by
    have := sb_len w x
    have := sbs_len w xs
    rw [sbs, List.length_append, cnts]
    omega
end
mutual
theorem sb_cnt (w : Bool) : ∀ (d : AV) (k : Nat), isVal d k = true → cnts (sb w d) ≤ k * cnt d
  | .tup xs, k, h => by
    have h' : (decide (k ≠ 0) && isVals xs (k - 1)) = true := h
    rw [Bool.and_eq_true_iff, decide_eq_true_eq] at h'
    obtain ⟨j, rfl⟩ : ∃ j, k = j + 1 := ⟨k - 1, by omega⟩
    have a := sbs_cnt w xs j h'.2
    have e : cnt (.tup xs) = 1 + cnts xs := rfl
    have e2 : (j + 1) * cnt (.tup xs) = j * (1 + cnts xs) + (1 + cnts xs) := by rw [e, Nat.succ_mul]
    have e3 : j * (1 + cnts xs) = j + j * cnts xs := by rw [Nat.mul_add, Nat.mul_one]
    rw [sb, cnts_app]
    have l1 : cnts (if sealB (.tup xs) = true then [AV.tup xs] else []) ≤ 1 + cnts xs := by
      split
      · show cnt (.tup xs) + 0 ≤ _; omega
      · exact Nat.zero_le _
    have l2 : cnts (if (w || !sealB (.tup xs)) = true then sbs w xs else []) ≤ j * cnts xs := by
      split
      · exact a
      · exact Nat.zero_le _
    omega
  | .non, _, _ => Nat.zero_le _
  | .bl _, _, _ => Nat.zero_le _
  | .int _, _, _ => Nat.zero_le _
  | .str _, _, _ => Nat.zero_le _
  | .lst _, _, _ => Nat.zero_le _
  | .rol _, _, _ => Nat.zero_le _
  | .ref _, _, _ => Nat.zero_le _
  | .ty _, _, _ => Nat.zero_le _
theorem sbs_cnt (w : Bool) : ∀ (xs : List AV) (k : Nat), isVals xs k = true → cnts (sbs w xs) ≤ k * cnts xs
  | [], _, _ => Nat.zero_le _
  | x :: xs, k, h => by
    have h := Bool.and_eq_true_iff.mp h
    have a := sb_cnt w x k h.1
    have b := sbs_cnt w xs k h.2
    rw [sbs, cnts_app, cnts, Nat.mul_add]
    omega
end
/-- the seals of a value make a value -/
theorem sb_val {d : AV} {k : Nat} (w : Bool) (h : isVal d k = true) : isVal (.tup (sb w d)) (k + 1) = true ∧ cnt (.tup (sb w d)) ≤ 1 + k * cnt d := by
  refine ⟨?_, ?_⟩
  · show (decide (k + 1 ≠ 0) && isVals (sb w d) (k + 1 - 1)) = true
    rw [Nat.add_sub_cancel, isVals_all, decide_eq_true (by omega : k + 1 ≠ 0), Bool.true_and, List.all_eq_true]
    exact fun s hs => (sb_in w d k h s hs).1
  · have a := sb_cnt w d k h
    show 1 + cnts (sb w d) ≤ _
    omega
end Vm

set_option Elab.async false
set_option linter.all false
set_option maxRecDepth 100000
set_option maxHeartbeats 1000000
set_option autoImplicit false
/-! PotM: what the drawn numbers need -/
namespace L3
open PySem L2
abbrev Pt := Int × Int × Int
def potO (t : Pt) : AO := .lst [.int t.1, .int t.2.1, .int t.2.2]
def okP (N : Nat) (t : Pt) : Prop := 0 ≤ t.1 ∧ 0 ≤ t.2.1 ∧ t.2.1 < 2305843009213693951 ∧ 0 ≤ t.2.2 ∧ t.2.2 ≤ N
theorem okP.up {M N : Nat} {t : Pt} (h : okP M t) (k : M ≤ N) : okP N t := ⟨h.1, h.2.1, h.2.2.1, h.2.2.2.1, by have := h.2.2.2.2; omega⟩
theorem ixNZ {n : Nat} {i : Int} (h0 : 0 ≤ i) (h1 : i < n) : ixN n i = some i.toNat := by
  unfold ixN
  rw [if_pos h0, if_pos h1]
theorem ixL_at {xs : List AV} {i : Int} (h0 : 0 ≤ i) (h1 : i < xs.length) : ∃ y, y ∈ xs ∧ ixL (some xs) (.int i) = ⟨True, y⟩ := by
  have e : atI xs i = some xs[i.toNat] := by
    unfold atI
    rw [ixNZ h0 h1]
    exact List.getElem?_eq_getElem (by omega)
  refine ⟨xs[i.toNat], List.getElem_mem .., ?_⟩
  show (⟨(atI xs i).isSome = true, (atI xs i).getD .non⟩ : Ans) = _
  rw [e]
  exact ans_tt rfl rfl
theorem ixA_lst {xs : List AV} {i : Int} {S : Store} (h0 : 0 ≤ i) (h1 : i < xs.length) : ∃ y, y ∈ xs ∧ ixA (.lst xs) (.int i) S = ⟨True, y⟩ := ixL_at h0 h1
theorem ixA_rol {xs : List AV} {i : Int} {S : Store} (h0 : 0 ≤ i) (h1 : i < xs.length) : ∃ y, y ∈ xs ∧ ixA (.rol xs) (.int i) S = ⟨True, y⟩ := ixL_at h0 h1
theorem ixA_tup {xs : List AV} {i : Int} {S : Store} (h0 : 0 ≤ i) (h1 : i < xs.length) : ∃ y, y ∈ xs ∧ ixA (.tup xs) (.int i) S = ⟨True, y⟩ := ixL_at h0 h1
theorem ixA_str {z : Str} {i : Int} {S : Store} (hz : z.length ≤ sizeLine) (h0 : 0 ≤ i) (h1 : i < z.length) : ∃ c, c ∈ z.cps.toList ∧ ixA (.str z) (.int i) S = ⟨True, .str ⟨#[c]⟩⟩ := by
  have hl : z.length = z.cps.toList.length := (Array.length_toList).symm
  have h2 : i.toNat < z.cps.toList.length := by omega
  have e : atI z.cps.toList i = some z.cps.toList[i.toNat] := by
    unfold atI
    rw [ixNZ h0 (by omega)]
    exact List.getElem?_eq_getElem h2
  refine ⟨z.cps.toList[i.toNat], List.getElem_mem .., ?_⟩
  show (⟨z.length ≤ sizeLine ∧ (atI z.cps.toList i).isSome = true, .str ⟨#[(atI z.cps.toList i).getD 0]⟩⟩ : Ans) = _
  rw [e]
  exact ans_tt ⟨hz, rfl⟩ rfl
theorem ixP {S : Store} {p : Addr} {t : Pt} (h : S p = some (potO t)) {i : Int} : ixA (.ref p) (.int i) S = ixL (some [.int t.1, .int t.2.1, .int t.2.2]) (.int i) := by
  show ixL (lstA S (.ref p)) (.int i) = _
  rw [lstA_ref h]
theorem ixP0 {S : Store} {p : Addr} {t : Pt} (h : S p = some (potO t)) : ixA (.ref p) (.int 0) S = ⟨True, .int t.1⟩ := (ixP h).trans (ans_tt rfl rfl)
theorem ixP1 {S : Store} {p : Addr} {t : Pt} (h : S p = some (potO t)) : ixA (.ref p) (.int 1) S = ⟨True, .int t.2.1⟩ := (ixP h).trans (ans_tt rfl rfl)
theorem ixP2 {S : Store} {p : Addr} {t : Pt} (h : S p = some (potO t)) : ixA (.ref p) (.int 2) S = ⟨True, .int t.2.2⟩ := (ixP h).trans (ans_tt rfl rfl)
theorem prime_ix {i : Int} (h0 : 0 ≤ i) (h1 : i < 5) : ∃ v : Int, 0 < v ∧ v < 2147483648 ∧ ∀ S, ixA (.lst [.int 2147483647, .int 2147483629, .int 2147483587, .int 2147483579, .int 2147483563]) (.int i) S = ⟨True, .int v⟩ := by
  have : i = 0 ∨ i = 1 ∨ i = 2 ∨ i = 3 ∨ i = 4 := by omega
  rcases this with rfl | rfl | rfl | rfl | rfl
  · exact ⟨2147483647, by decide, by decide, fun S => ans_tt rfl rfl⟩
  · exact ⟨2147483629, by decide, by decide, fun S => ans_tt rfl rfl⟩
  · exact ⟨2147483587, by decide, by decide, fun S => ans_tt rfl rfl⟩
  · exact ⟨2147483579, by decide, by decide, fun S => ans_tt rfl rfl⟩
  · exact ⟨2147483563, by decide, by decide, fun S => ans_tt rfl rfl⟩
theorem mulL {i j : Int} (h : -(2 ^ 64) < i) (h' : i < 2 ^ 64) : CMulB i j := .inl (.inl ⟨h, h'⟩)
theorem mulR {i j : Int} (h : -(2 ^ 64) < j) (h' : j < 2 ^ 64) : CMulB i j := .inl (.inr ⟨h, h'⟩)
theorem divS {i j : Int} (h : 0 < j) (h' : j < 2 ^ 64) : CDivW i j := by
  have : j.natAbs.log2 < 64 := (Nat.log2_lt (by omega)).mpr (by omega)
  exact ⟨h, by omega⟩
theorem powS {i j : Int} (h0 : 0 ≤ i) (h : i < 2 ^ 512) (h1 : 0 ≤ j) (h2 : j ≤ 2 ^ 17) : CPowB i j := by
  have b : Builtin.Int.intBits i ≤ 512 := intBits_le_iff.mpr (by omega)
  refine ⟨h1, ?_⟩
  have h3 : (Builtin.Int.intBits i : Int) * j ≤ 512 * j := Int.mul_le_mul_of_nonneg_right (by omega) h1
  omega
theorem ix1_0 {S : Store} {p : Addr} {x : AV} (h : S p = some (.lst [x])) : ixA (.ref p) (.int 0) S = ⟨True, x⟩ := by
  show ixL (lstA S (.ref p)) (.int 0) = _
  rw [lstA_ref h]
  exact ans_tt rfl rfl
theorem ix3_0 {S : Store} {p : Addr} {x y z : AV} (h : S p = some (.lst [x, y, z])) : ixA (.ref p) (.int 0) S = ⟨True, x⟩ := by
  show ixL (lstA S (.ref p)) (.int 0) = _
  rw [lstA_ref h]
  exact ans_tt rfl rfl
theorem ix3_1 {S : Store} {p : Addr} {x y z : AV} (h : S p = some (.lst [x, y, z])) : ixA (.ref p) (.int 1) S = ⟨True, y⟩ := by
  show ixL (lstA S (.ref p)) (.int 1) = _
  rw [lstA_ref h]
  exact ans_tt rfl rfl
theorem ix3_2 {S : Store} {p : Addr} {x y z : AV} (h : S p = some (.lst [x, y, z])) : ixA (.ref p) (.int 2) S = ⟨True, z⟩ := by
  show ixL (lstA S (.ref p)) (.int 2) = _
  rw [lstA_ref h]
  exact ans_tt rfl rfl
theorem ixU_0 {S : Store} {p : Addr} {x y z : AV} : ixA (.ref p) (.int 0) (updS S p (.lst [x, y, z])) = ⟨True, x⟩ := ix3_0 updS_same
theorem ixU_1 {S : Store} {p : Addr} {x y z : AV} : ixA (.ref p) (.int 1) (updS S p (.lst [x, y, z])) = ⟨True, y⟩ := ix3_1 updS_same
theorem ixU_2 {S : Store} {p : Addr} {x y z : AV} : ixA (.ref p) (.int 2) (updS S p (.lst [x, y, z])) = ⟨True, z⟩ := ix3_2 updS_same
theorem SubAt3_0 {S : Store} {p : Addr} {x y z d : AV} {Q : Store → Prop} (h : S p = some (.lst [x, y, z])) (q : Q (updS S p (.lst [d, y, z]))) : SubAt (.ref p) (.int 0) d S Q := ⟨p, _, 0, 0, rfl, rfl, h, rfl, q⟩
theorem SubAt3_2 {S : Store} {p : Addr} {x y z d : AV} {Q : Store → Prop} (h : S p = some (.lst [x, y, z])) (q : Q (updS S p (.lst [x, y, d]))) : SubAt (.ref p) (.int 2) d S Q := ⟨p, _, 2, 2, rfl, rfl, h, rfl, q⟩
/-- what a draw asks and gives -/
def spTake : ASp := fun ds S Q => ∃ p t n N, ds = [.ref p, .int n] ∧ 0 < n ∧ n < 2 ^ 62 ∧ S p = some (potO t) ∧ okP N t ∧ N < 2 ^ 40 ∧ ∀ t' r, okP (N + 1) t' → 0 ≤ r → r < n → Q (.int r) (updS S p (potO t'))
/-- what may stand in _law_of -/
def partsA : AV → Option (List AV)
  | .str z => if z.length ≤ sizeLine then some (signsA z) else none
  | .lst xs => some xs
  | .tup xs => some xs
  | _ => none
def spOne : ASp := fun ds S Q => ∃ p t x xs N, ds = [.ref p, x] ∧ partsA x = some xs ∧ xs ≠ [] ∧ xs.length < 2 ^ 40 ∧ S p = some (potO t) ∧ okP N t ∧ N < 2 ^ 40 ∧ ∀ t' y, okP (N + 1) t' → y ∈ xs → Q y (updS S p (potO t'))
theorem one_str {p : Addr} {t : Pt} {z : Str} {N : Nat} {S : Store} {Q : AK} (hz : 0 < z.length) (hz2 : z.length ≤ 16777216) (hp : S p = some (potO t)) (ok : okP N t) (hN : N < 2 ^ 40)
    (q : ∀ t' c, okP (N + 1) t' → c ∈ z.cps.toList → Q (.str ⟨#[c]⟩) (updS S p (potO t'))) : spOne [.ref p, .str z] S Q := by
  have hl : (signsA z).length = z.length := by unfold signsA; rw [List.length_map, Array.length_toList]; rfl
  refine ⟨p, t, _, signsA z, N, rfl, if_pos (le_sl hz2), ?_, by omega, hp, ok, hN, fun t' y ok' hy => ?_⟩
  · exact List.ne_nil_of_length_pos (by omega)
  · obtain ⟨c, hc, rfl⟩ := List.mem_map.mp hy
    exact q t' c ok' hc
theorem one_lst {p : Addr} {t : Pt} {xs : List AV} {N : Nat} {S : Store} {Q : AK} (hz : 0 < xs.length) (hz2 : xs.length < 2 ^ 40) (hp : S p = some (potO t)) (ok : okP N t) (hN : N < 2 ^ 40)
    (q : ∀ t' y, okP (N + 1) t' → y ∈ xs → Q y (updS S p (potO t'))) : spOne [.ref p, .lst xs] S Q :=
  ⟨p, t, _, xs, N, rfl, rfl, List.ne_nil_of_length_pos hz, hz2, hp, ok, hN, q⟩
theorem take_of {p : Addr} {t : Pt} {n : Int} {N : Nat} {S : Store} {Q : AK} (hn : 0 < n) (hn2 : n < 2 ^ 62) (hp : S p = some (potO t)) (ok : okP N t) (hN : N < 2 ^ 40)
    (q : ∀ t' r, okP (N + 1) t' → 0 ≤ r → r < n → Q (.int r) (updS S p (potO t'))) : spTake [.ref p, .int n] S Q := ⟨p, t, n, N, rfl, hn, hn2, hp, ok, hN, q⟩
/-- one sign of those that a value may have -/
def Sgn (y : AV) : Prop := ∃ c, y = .str ⟨#[c]⟩ ∧ Vm.chB c = true
theorem join_tl : ∀ xs : List Str, (Str.join (Str.ofString "") xs).cps.toList = xs.flatMap (·.cps.toList)
  | [] => rfl
  | [x] => by simp [Str.join]
  | x :: z :: r => by
    have e : (Str.ofString "").cps.toList = [] := by decide +kernel
    show ((x.cps ++ (Str.ofString "").cps) ++ (Str.join (Str.ofString "") (z :: r)).cps).toList = _
    rw [Array.toList_append, Array.toList_append, e, join_tl (z :: r), List.append_nil]
    rfl
theorem sgn_all : ∀ {acc : List AV}, (∀ y ∈ acc, Sgn y) → acc.all isStrA = true ∧ ((acc.map strOf).map (·.length)).sum = acc.length ∧ ((acc.map strOf).flatMap (·.cps.toList)).length = acc.length ∧ ∀ c ∈ (acc.map strOf).flatMap (·.cps.toList), Vm.chB c = true
  | [], _ => ⟨rfl, rfl, rfl, fun c h => by cases h⟩
  | x :: xs, h => by
    obtain ⟨c, rfl, hc⟩ := h x (List.mem_cons_self ..)
    obtain ⟨a, b, d, e⟩ := sgn_all fun y hy => h y (List.mem_cons_of_mem _ hy)
    refine ⟨by rw [List.all_cons, a]; rfl, ?_, ?_, fun k hk => ?_⟩
    · rw [List.map_cons, List.map_cons, List.sum_cons, b, List.length_cons]; show 1 + _ = _; omega
    · rw [List.map_cons, List.flatMap_cons, List.length_append, d, List.length_cons]; show 1 + _ = _; omega
    · rw [List.map_cons, List.flatMap_cons] at hk
      rcases List.mem_append.mp hk with h | h
      · have h : k ∈ [c] := h
        cases List.mem_singleton.mp h; exact hc
      · exact e k h
theorem sgn_join {acc : List AV} (h : ∀ y ∈ acc, Sgn y) {S : Store} {Q : AK} (hl : acc.length ≤ 1000000) (q : ∀ z : Str, z.length = acc.length → (∀ c ∈ z.cps.toList, Vm.chB c = true) → Q (.str z) S) : mJoin (.str (Str.ofString "")) [.lst acc] S Q := by
  obtain ⟨a, b, d, e⟩ := sgn_all h
  have e0 : (Str.ofString "").length = 0 := by decide +kernel
  refine ⟨_, _, acc, rfl, rfl, rfl, a, ?_, ?_⟩
  · rw [b, e0]; omega
  · rw [TL.join_eq]
    refine q _ ?_ (by rw [join_tl]; exact e)
    show (Str.join (Str.ofString "") (acc.map strOf)).cps.size = _
    rw [← Array.length_toList, join_tl, d]
theorem cube_okG {A B b c : Int} (hA : 0 ≤ A) (hA2 : A < 2 ^ 20) (hB : 0 ≤ B) (hB2 : B < 2 ^ 20) (h0 : 0 ≤ b) (h1 : b < 2305843009213693951) (h2 : 0 ≤ c) (h3 : c < 2 ^ 41) : 0 ≤ b + A * c * c + B ∧ b + A * c * c + B < 2 ^ 512 := by
  have hAc : 0 ≤ A * c := Int.mul_nonneg hA h2
  have a : 0 ≤ A * c * c := Int.mul_nonneg hAc h2
  have d : A * c * c ≤ A * c * 2 ^ 41 := Int.mul_le_mul_of_nonneg_left (by omega) hAc
  have e : A * c ≤ 2 ^ 20 * c := Int.mul_le_mul_of_nonneg_right (by omega) h2
  omega
theorem cube_ok {b c : Int} (h0 : 0 ≤ b) (h1 : b < 2305843009213693951) (h2 : 0 ≤ c) (h3 : c < 2 ^ 41) : 0 ≤ b + 99029 * c * c + 719 ∧ b + 99029 * c * c + 719 < 2 ^ 512 := by
  have a : 0 ≤ 99029 * c * c := Int.mul_nonneg (by omega) h2
  have d : 99029 * c * c ≤ 99029 * c * 2 ^ 41 := Int.mul_le_mul_of_nonneg_left (by omega) (by omega)
  omega
/-- the row of values that is being made -/
structure RowOk (m i : Nat) (ds : List AV) : Prop where
  ne : 0 < ds.length
  len : ds.length ≤ 20 + i
  val : Vm.isVals ds (2 * i) = true
  cnt : Vm.cnts ds ≤ 10 * m + 11 * i
theorem vals_part {ds : List AV} {k j : Nat} (h : Vm.isVals ds k = true) : Vm.isVals (ds.take j) k = true ∧ Vm.isVals (ds.drop j) k = true ∧ Vm.cnts (ds.take j) + Vm.cnts (ds.drop j) = Vm.cnts ds := by
  have e := List.take_append_drop j ds
  have h1 : Vm.isVals (ds.take j ++ ds.drop j) k = true := by rw [e]; exact h
  rw [Vm.isVals_app, Bool.and_eq_true_iff] at h1
  refine ⟨h1.1, h1.2, ?_⟩
  rw [← Vm.cnts_app, e]
theorem RowOk.tup {m i j : Nat} {ds : List AV} (h : RowOk m i ds) : RowOk m (i + 1) (ds.take j ++ [.tup (ds.drop j)]) := by
  obtain ⟨a, b, c⟩ := vals_part (j := j) h.val
  refine ⟨by simp, ?_, ?_, ?_⟩
  · have := h.len
    rw [List.length_append, List.length_take, List.length_singleton]; omega
  · rw [Vm.isVals_app, Vm.vals_up _ (2 * i) (2 * (i + 1)) (by omega) a]
    show (true && ((decide (2 * (i + 1) ≠ 0) && Vm.isVals (ds.drop j) (2 * (i + 1) - 1)) && true)) = true
    rw [Vm.vals_up _ (2 * i) (2 * (i + 1) - 1) (by omega) b, decide_eq_true (by omega)]
    rfl
  · have := h.cnt
    rw [Vm.cnts_app]
    show _ + (1 + Vm.cnts (ds.drop j) + 0) ≤ _
    omega
theorem RowOk.seal {m i j : Nat} {ds : List AV} {nm : AV} (h : RowOk m i ds) (h1 : Vm.isVal nm 0 = true) (h2 : Vm.cnt nm ≤ 4) : RowOk m (i + 1) (ds.take j ++ [.tup [.str "seal", nm, .tup (ds.drop j)]]) := by
  obtain ⟨a, b, c⟩ := vals_part (j := j) h.val
  refine ⟨by simp, ?_, ?_, ?_⟩
  · have := h.len
    rw [List.length_append, List.length_take, List.length_singleton]; omega
  · rw [Vm.isVals_app, Vm.vals_up _ (2 * i) (2 * (i + 1)) (by omega) a]
    have s1 : Vm.isVal (.str "seal") (2 * (i + 1) - 1) = true := by show Vm.leafV (.str "seal") = true; decide +kernel
    show (true && ((decide (2 * (i + 1) ≠ 0) && (Vm.isVal (.str "seal") (2 * (i + 1) - 1) && (Vm.isVal nm (2 * (i + 1) - 1) && ((decide (2 * (i + 1) - 1 ≠ 0) && Vm.isVals (ds.drop j) (2 * (i + 1) - 1 - 1)) && true)))) && true)) = true
    rw [Vm.vals_up _ (2 * i) (2 * (i + 1) - 1 - 1) (by omega) b, decide_eq_true (by omega), decide_eq_true (by omega), s1, Vm.val_up nm 0 _ (by omega) h1]
    rfl
  · have := h.cnt
    have s1 : Vm.cnt (.str "seal") = 5 := by decide +kernel
    rw [Vm.cnts_app]
    show _ + ((1 + (Vm.cnt (.str "seal") + (Vm.cnt nm + ((1 + Vm.cnts (ds.drop j)) + 0)))) + 0) ≤ _
    omega
theorem RowOk.start {m : Nat} {ds : List AV} (h0 : 0 < ds.length) (h1 : ds.length ≤ m) (hm : m ≤ 20) (h : ∀ y ∈ ds, Vm.isVal y 0 = true ∧ Vm.cnt y ≤ 10) : RowOk m 0 ds := by
  refine ⟨h0, by omega, by rw [Vm.isVals_all, List.all_eq_true]; exact fun x hx => (h x hx).1, ?_⟩
  have : ∀ xs : List AV, (∀ y ∈ xs, Vm.cnt y ≤ 10) → Vm.cnts xs ≤ 10 * xs.length := by
    intro xs
    induction xs with
    | nil => intro _; exact Nat.zero_le _
    | cons x xs ih =>
      intro h
      have a := h x (List.mem_cons_self ..)
      have b := ih fun y hy => h y (List.mem_cons_of_mem _ hy)
      rw [Vm.cnts, List.length_cons]
      omega
  have := this ds fun y hy => (h y hy).2
  omega
/-- the same, of any parts -/
structure RowG (m i : Nat) (ds : List AV) : Prop where
  ne : 0 < ds.length
  len : ds.length ≤ 20 + i
  val : Vm.isVals ds (2 * i) = true
  cnt : Vm.cnts ds ≤ m + 11 * i
theorem vals_partG {ds : List AV} {k j : Nat} (h : Vm.isVals ds k = true) : Vm.isVals (ds.take j) k = true ∧ Vm.isVals (ds.drop j) k = true ∧ Vm.cnts (ds.take j) + Vm.cnts (ds.drop j) = Vm.cnts ds := by
  have e := List.take_append_drop j ds
  have h1 : Vm.isVals (ds.take j ++ ds.drop j) k = true := by rw [e]; exact h
  rw [Vm.isVals_app, Bool.and_eq_true_iff] at h1
  refine ⟨h1.1, h1.2, ?_⟩
  rw [← Vm.cnts_app, e]
theorem RowG.tup {m i j : Nat} {ds : List AV} (h : RowG m i ds) : RowG m (i + 1) (ds.take j ++ [.tup (ds.drop j)]) := by
  obtain ⟨a, b, c⟩ := vals_partG (j := j) h.val
  refine ⟨by simp, ?_, ?_, ?_⟩
  · have := h.len
    rw [List.length_append, List.length_take, List.length_singleton]; omega
  · rw [Vm.isVals_app, Vm.vals_up _ (2 * i) (2 * (i + 1)) (by omega) a]
    show (true && ((decide (2 * (i + 1) ≠ 0) && Vm.isVals (ds.drop j) (2 * (i + 1) - 1)) && true)) = true
    rw [Vm.vals_up _ (2 * i) (2 * (i + 1) - 1) (by omega) b, decide_eq_true (by omega)]
    rfl
  · have := h.cnt
    rw [Vm.cnts_app]
    show _ + (1 + Vm.cnts (ds.drop j) + 0) ≤ _
    omega
theorem RowG.seal {m i j : Nat} {ds : List AV} {nm : AV} (h : RowG m i ds) (h1 : Vm.isVal nm 0 = true) (h2 : Vm.cnt nm ≤ 4) : RowG m (i + 1) (ds.take j ++ [.tup [.str "seal", nm, .tup (ds.drop j)]]) := by
  obtain ⟨a, b, c⟩ := vals_partG (j := j) h.val
  refine ⟨by simp, ?_, ?_, ?_⟩
  · have := h.len
    rw [List.length_append, List.length_take, List.length_singleton]; omega
  · rw [Vm.isVals_app, Vm.vals_up _ (2 * i) (2 * (i + 1)) (by omega) a]
    have s1 : Vm.isVal (.str "seal") (2 * (i + 1) - 1) = true := by show Vm.leafV (.str "seal") = true; decide +kernel
    show (true && ((decide (2 * (i + 1) ≠ 0) && (Vm.isVal (.str "seal") (2 * (i + 1) - 1) && (Vm.isVal nm (2 * (i + 1) - 1) && ((decide (2 * (i + 1) - 1 ≠ 0) && Vm.isVals (ds.drop j) (2 * (i + 1) - 1 - 1)) && true)))) && true)) = true
    rw [Vm.vals_up _ (2 * i) (2 * (i + 1) - 1 - 1) (by omega) b, decide_eq_true (by omega), decide_eq_true (by omega), s1, Vm.val_up nm 0 _ (by omega) h1]
    rfl
  · have := h.cnt
    have s1 : Vm.cnt (.str "seal") = 5 := by decide +kernel
    rw [Vm.cnts_app]
    show _ + ((1 + (Vm.cnt (.str "seal") + (Vm.cnt nm + ((1 + Vm.cnts (ds.drop j)) + 0)))) + 0) ≤ _
    omega
theorem RowG.start {m c M : Nat} {ds : List AV} (h0 : 0 < ds.length) (h1 : ds.length ≤ m) (hm : m ≤ 20) (hM : M = c * m) (h : ∀ y ∈ ds, Vm.isVal y 0 = true ∧ Vm.cnt y ≤ c) : RowG M 0 ds := by
  refine ⟨h0, by omega, by rw [Vm.isVals_all, List.all_eq_true]; exact fun x hx => (h x hx).1, ?_⟩
  have : ∀ xs : List AV, (∀ y ∈ xs, Vm.cnt y ≤ c) → Vm.cnts xs ≤ c * xs.length := by
    intro xs
    induction xs with
    | nil => intro _; exact Nat.zero_le _
    | cons x xs ih =>
      intro h
      have a := h x (List.mem_cons_self ..)
      have b := ih fun y hy => h y (List.mem_cons_of_mem _ hy)
      rw [Vm.cnts, List.length_cons, Nat.mul_succ]
      omega
  have a := this ds fun y hy => (h y hy).2
  have b := Nat.mul_le_mul_left c h1
  omega
theorem cutL_neg {ds : List AV} {k : Nat} (h0 : 0 < k) (h : k ≤ ds.length) : cutL ds (some (-(k : Int))) none = ds.drop (ds.length - k) := by
  have e : HT.sIx ds.length 0 (some (-(k : Int))) = ds.length - k := by
    show (if -(k : Int) < 0 then (-(k : Int) + (ds.length : Int)).toNat else _) = _
    rw [if_pos (by omega)]
    omega
  unfold cutL
  rw [e, HT.sIx_none]
  exact List.take_of_length_le (by rw [List.length_drop]; omega)
theorem cutL_hi {ds : List AV} {k : Nat} (h : k ≤ ds.length) : cutL ds none (some (k : Int)) = ds.take k := by
  unfold cutL
  rw [HT.sIx_none, HT.sIx_nat, List.drop_zero, Nat.min_eq_left h, Nat.sub_zero]
theorem cutL_lo {ds : List AV} {k : Nat} (h : k ≤ ds.length) : cutL ds (some (k : Int)) none = ds.drop k := by
  unfold cutL
  rw [HT.sIx_none, HT.sIx_nat, Nat.min_eq_left h]
  exact List.take_of_length_le (by rw [List.length_drop]; omega)
theorem repr_v {d : AV} {k : Nat} (h : Vm.isVal d k = true) (hk : k ≤ 60) (hc : Vm.cnt d ≤ 700000) (S : Store) : reprA d S = ⟨True, .str (toD d).shown⟩ := by
  obtain ⟨a, b⟩ := Vm.repr_ok S h hk hc
  have : reprA d S = ⟨(reprA d S).ok, (reprA d S).v⟩ := rfl
  rw [this, b, eq_true a]
theorem repr_b (b : Bool) (S : Store) : reprA (.bl b) S = ⟨True, .str (toD (.bl b)).shown⟩ := by
  obtain ⟨a, c⟩ := Vm.repr_bl (b := b) S
  have : reprA (.bl b) S = ⟨(reprA (.bl b) S).ok, (reprA (.bl b) S).v⟩ := rfl
  rw [this, c, eq_true a]
theorem addA_rl {l : Addr} {xs ys : List AV} {S : Store} (h : S l = some (.lst xs)) : addA (.ref l) (.lst ys) S = ⟨xs.length + ys.length ≤ sizeLine, .lst (xs ++ ys)⟩ := by
  show catA (wstA S (.ref l)) (some ys) = _
  rw [wstA_ref h]
  rfl
theorem sgn_val {z : Str} {k n : Nat} (hl : z.length ≤ n) (hn : n ≤ 100000) (hc : ∀ c ∈ z.cps.toList, Vm.chB c = true) : Vm.isVal (.str z) k = true ∧ Vm.cnt (.str z) ≤ 1 + n := by
  refine ⟨?_, by show 1 + z.length ≤ _; omega⟩
  show (decide (z.length ≤ 100000) && z.cps.toList.all Vm.chB) = true
  rw [decide_eq_true (by omega), List.all_eq_true.mpr hc]
  rfl
end L3

set_option Elab.async false
set_option linter.all false
set_option maxRecDepth 100000
set_option maxHeartbeats 2000000
set_option autoImplicit false
/-! L3Q: own exceptions over ValueError whose __init__ says super().__init__(value); self.value = value. -/
namespace L3
open PySem L2 PyProof.Rows
namespace XI
section
open PySem.W
/-- ValueError's own way to begin, held by x -/
abbrev wrapV (x : Addr) : Obj := { cls := .type "method-wrapper", dict := none, data := .fields #[.builtin "ValueError.__init__", .ref x], slots := #[] }
theorem tyV : typeOf (.builtin "ValueError.__init__") = pure (.type "wrapper_descriptor") := by
  show builtinType _ = _
  rw [builtinType_eq_fast]
  kernel_rfl
theorem nameV : (kfb_private% "nameAndClass") (Value.builtin "ValueError.__init__") = (pure (("__init__" : Str), Value.type "ValueError") : Sem (Str × Value)) := by kernel_rfl
theorem alongV (K : Frag) : alongIn K "__init__" PySem.HandSPX.veTail = some (some (.builtin "ValueError.__init__")) := by kernel_rfl
variable {prog : Program} {w : World} {A : Around} {E : Value → Shared → Prop} {h : Heap} {g : Array GenState} {d : Drawn} {t : Nat} {os : OsState}
theorem getV {x C : Addr} {P : Fin → Shared → Prop} (hin : Looks (model prog w) h (isInstance (.ref x) (.type "ValueError")) true) (hq : P (.done (.ret (.ref h.objs.size))) ⟨h.push (wrapV x), g, d, t, os⟩) :
    wpAny (model prog w) A (Builtin.«wrapper_descriptor.__get__» ⟨[.builtin "ValueError.__init__", .ref x, .ref C], []⟩) P E ⟨h, g, d, t, os⟩ := by
  unfold Builtin.«wrapper_descriptor.__get__»
  refine wpAny_bind (wpAny_of_eq (a := (.builtin "ValueError.__init__", some (.ref x), some (.ref C))) (by first | rfl | kernel_rfl) ?_)
  show wpAny _ A ((kfb_private% "checkInstance") (.builtin "ValueError.__init__") (.ref x) >>= fun _ => newFields "method-wrapper" [.builtin "ValueError.__init__", .ref x] >>= fun r => ret r) P E _
  refine wpAny_bind ?_
  show wpAny _ A ((kfb_private% "nameAndClass") (.builtin "ValueError.__init__") >>= _) _ E _
  refine wpAny_bind (wpAny_of_eq nameV ?_)
  show wpAny _ A (isInstance (.ref x) (.type "ValueError") >>= _) _ E _
  refine wpAny_bind (hin.at (KFB.if_not rfl (wpAny_pure ?_)))
  exact wpAny_bind (wpAny_newObj_type (wpAny_pure hq))
/-- super's look for __init__ finds it -/
theorem lookV {so D x C : Addr} {l₀ l : List Value} {K : Frag} {tk : Tok} {name : Str} {Q : Fin → Shared → Prop} (hf : alongIn K name l = some (some (.builtin "ValueError.__init__"))) (hn : (name == ("__class__" : Str)) = false) (hso : h.get? so = some (ks_superObj D x C)) (hno : Looks (model prog w) h (opaqueClassAbove (.ref C)) none)
    (hC : Looks (model prog w) h (mroOf (.ref C)) l₀) (hl : (l₀.dropWhile (· != .ref D)).drop 1 = l) (X : K.In h) (hxC : x ≠ C) (hin : Looks (model prog w) h (isInstance (.ref x) (.type "ValueError")) true)
    (hq : Q (.done (.ret (.ref h.objs.size))) ⟨h.push (wrapV x), g, d, t, os⟩) : wpAny (model prog w) A (Builtin.«super.__getattribute__» ⟨[.ref so, .str name tk], []⟩) Q E ⟨h, g, d, t, os⟩ := by
  have hlk := PySem.ESX.slot_wd.lookup
  have hne : (Value.ref x == Value.ref C) = false := by simp [hxC]
  have hTf := tyV
  have hTi : Shared.TypeIs ⟨h, g, d, t, os⟩ (.builtin "ValueError.__init__") "wrapper_descriptor" := tyV
  have h0 : (#[.ref D, .ref x, .ref C] : Array Value)[0]? = some (.ref D) := rfl
  have h1 : (#[.ref D, .ref x, .ref C] : Array Value)[1]? = some (.ref x) := rfl
  have h2 : (#[.ref D, .ref x, .ref C] : Array Value)[2]? = some (.ref C) := rfl
  have hdt : (ks_superObj D x C).data = .fields #[.ref D, .ref x, .ref C] := rfl
  unfold Builtin.«super.__getattribute__»
  repeat (first
    | (with_reducible refine wpAny_field hso hdt h0 ?_)
    | (with_reducible refine wpAny_field hso hdt h1 ?_)
    | (with_reducible refine wpAny_field hso hdt h2 ?_)
    | (with_reducible refine PySem.ks_wpAny_notOpaque hno ?_)
    | (with_reducible refine Looks.at hC ?_
       rw [hl])
    | (refine PySem.ks_forIn_along X (fun _ _ => rfl) rfl ?_ hf)
    | (with_reducible refine wpAny_call_entry PySem.ESX.slot_wd hTi PySem.ESX.entry_wd ?_ (PySem.ESX.args_wd _ _ _))
    | (with_reducible refine getV hin ?_)
    | (with_reducible refine ⟨_, rfl, ?_⟩)
    | (simp only [hn, hne, Bool.or_false, Bool.false_eq_true, if_false])
    | wp_step
    | dsimp only)
  all_goals exact hq
theorem methV {so D x C : Addr} {l₀ l : List Value} {K : Frag} {name : Str} {pl : Sem Bool} {Q : Value × List Value → Shared → Prop} (hf : alongIn K name l = some (some (.builtin "ValueError.__init__"))) (hn : (name == ("__class__" : Str)) = false) (hso : h.get? so = some (ks_superObj D x C)) (hno : Looks (model prog w) h (opaqueClassAbove (.ref C)) none)
    (hC : Looks (model prog w) h (mroOf (.ref C)) l₀) (hl : (l₀.dropWhile (· != .ref D)).drop 1 = l) (X : K.In h) (hxC : x ≠ C) (hin : Looks (model prog w) h (isInstance (.ref x) (.type "ValueError")) true)
    (hq : Q (.ref h.objs.size, []) ⟨h.push (wrapV x), g, d, t + 1, os⟩) : wpAny (model prog w) A (getMethod (.ref so) name pl) Q E ⟨h, g, d, t, os⟩ := by
  have look := PySem.F.ks_slot_super_ga.lookup
  have isS : ∀ t', (⟨h, g, d, t', os⟩ : Shared).TypeIs (.ref so) "super" := fun _ => ⟨_, hso, rfl⟩
  unfold getMethod
  refine wpAny_bind (wpAny_specialOf (isS _) look ?_)
  show wpAny _ _ (if (Manifest.canonical "super.__getattribute__" != "object.__getattribute__") = true then _ else _) _ _ _
  rw [if_pos PySem.F.ks_canon_super_ga]
  unfold getAttr getAttrBy
  refine wpAny_bind (wpAny_bind (wpAny_mkText (wpAny_holding (wpAny_bind (wpAny_typeOf (isS _) (wpAny_bind (wpAny_of_eq look ?_)))))))
  show wpAny _ _ (getAttrByItsOwn (.ref so) (.str name t) (.type "super") (.builtin "super.__getattribute__") true false) _ _ _
  unfold getAttrByItsOwn hookBefore callGetattribute boundAndCalled
  refine wpAny_bind (wpAny_of_eq (show (if onTheHeap (.type "super") then typeLookup (.type "super") "__getattr__" else pure none) = pure none from rfl) (wpAny_bind (wpAny_attempt (wpAny_holding ?_))))
  show wpAny _ _ (bindSpecial (.builtin "super.__getattribute__") (.ref so) >>= _) _ _ _
  refine wpAny_bind (wpAny_of_eq (PySem.F.ks_slot_super_ga.bind _) ?_)
  refine wpAny_mono (Q := fun v s' => v = .ref h.objs.size ∧ s' = ⟨h.push (wrapV x), g, d, t + 1, os⟩) (E := fun _ _ => False)
    (wpAny_call_entry PySem.F.ks_slot_super_ga (isS _) PySem.F.ks_entry_super_ga (lookV hf hn hso hno hC hl X hxC hin ⟨_, rfl, rfl, rfl⟩) (PySem.F.ks_gaArgs_super _ _)) (fun v s' ⟨e1, e2⟩ => ?_) fun _ _ z => z.elim
  subst e1 e2
  exact wpAny_pure (wpAny_pure hq)
end
section
open PySem.W PySem.Calls
variable {prog : Program} {w : World} {M : Model} {A : Around} {E : Value → Shared → Prop} {s : Shared}
/-- the call's arguments, then the call -/
theorem callWithV {pos : Pos} {u x : Addr} {env : Env} {e : Expr} {Q : Value → Shared → Prop}
    (h : wpAny M A (eval e env) (fun v s₁ => s₁.heap.get? u = some (wrapV x) ∧ wpAny M A (call (.ref u) [v]) Q E s₁) E s) (he : starEach [e] env = (false, eval e env) :: starEach [] env := by rfl) :
    wpAny M A (callWith pos (.ref u) [] (backTo pos (starEach [e] env)) []) Q E s := by
  have any0 : (backTo pos (starEach ([] : List Expr) env)).any (·.1) = false := by rfl
  rw [he]
  have args : wpAny M A (evalArgs (.ref u) true (backTo pos ((false, eval e env) :: starEach [] env)) []) (fun a s₁ => s₁.heap.get? u = some (wrapV x) ∧ wpAny M A (call (.ref u) ([] ++ a.pos) a.kw) Q E s₁) E s := by
    refine evalArgs_plain (spliced_cons (wpAny_mono h (fun v s₁ h₁ => spliced_nil ⟨h₁.1, h₁.2⟩) fun _ _ z => z))
  unfold callWith
  refine wpAny_bind (wpAny_holding (wpAny_mono args (fun a s₁ h₁ => wpAny_bind (wpAny_standAt ?_)) fun _ _ z => z))
  obtain ⟨ho, hcall⟩ := h₁
  have any1 : (backTo pos ((false, eval e env) :: starEach [] env)).any (·.1) = false := by
    show (false || (backTo pos (starEach [] env)).any (·.1)) = false
    rw [any0]
    rfl
  simp only [any1, List.any_nil, Bool.or_false]
  refine wpAny_bind (m := keeperOf (.ref u)) ?_
  unfold keeperOf
  refine wpAny_bind (wpAny_load ho ?_)
  simp only [wrapV, show (Value.type "method-wrapper" != Value.type "method") = true by decide, show (Value.type "method-wrapper" == Value.type "builtin_function_or_method" || Value.type "method-wrapper" == Value.type "method-wrapper") = true by decide, if_true]
  refine wpAny_pure (wpAny_bind (wpAny_mono hcall (fun r s₂ hr => ?_) fun _ _ z => z))
  exact wpAny_bind (wpAny_holding (wpAny_point (wpAny_pure hr)))
end
section
open PySem.W
variable {prog : Program} {w : World} {A : Around} {E : Value → Shared → Prop} {h : Heap} {g : Array GenState} {d : Drawn} {t : Nat} {os : OsState}
variable {nm q : Str} {C N : Addr} {bs bm : List Value} {hdct : Bool} {sn : List Str} {sub : List Value} {ab : Bool} {col : Option Bool} {dd : Option Addr} {k0 k1 k2 k3 k5 : Option Value}
theorem checkV {M : Model} {e : Addr} {oe : Obj} {rest : List Value} {Q : Unit → Shared → Prop} (hC : h.get? C = some (excClassObj nm q C N bs bm hdct sn sub ab col dd k0 k1 k2 k3 k5 "ValueError.__new__")) (he : h.get? e = some oe) (hcls : oe.cls = .ref C) (hq : Q () ⟨h, g, d, t, os⟩) :
    wpAny M A (checkBoundCall "ValueError.__init__" ⟨.ref e :: rest, []⟩) Q E ⟨h, g, d, t, os⟩ := by
  have FB := PySem.F.excBase_ValueError
  have short := FB.noStar
  simp only [checkBoundCall, FB.initKind, FB.initRow]
  repeat (first
    | (with_reducible refine wpAny_loadPart_at he ?_
       rw [hcls])
    | with_reducible refine wpAny_loadPart_at hC ?_
    | wp_step)
  refine wpAny_onRaise ?_
  rw [show ∀ (a b : String) (n : Nat), Bind.check ⟨.positional, "*", "ValueError", .self, [⟨"args", .varPos, false⟩]⟩ a b n (List.map (fun x => x.fst) ({ pos := Value.ref e :: rest } : Args).kw) = pure () from fun a b n => check_star_args _ _ _ _ _ _]
  exact wpAny_pure hq
theorem callV {u e t0 : Addr} {rest : List Value} {Q : Value → Shared → Prop} (hC : h.get? C = some (excClassObj nm q C N bs bm hdct sn sub ab col dd k0 k1 k2 k3 k5 "ValueError.__new__")) (he : h.get? e = some (PySem.HandSPX.excO C t0)) (hu : h.get? u = some (wrapV e)) (hrest : rest.length ≤ sizeLine)
    (hq : ∀ h' t1, (∀ b o, b ≠ e → h.get? b = some o → h'.get? b = some o) → h'.get? e = some (PySem.HandSPX.excO C t1) → Q .none ⟨h', g, d, t, os⟩) : wpAny (model prog w) A (call (.ref u) rest) Q E ⟨h, g, d, t, os⟩ := by
  refine wpAny_call (codeAny_of_tree ?_)
  show wpAny _ A.in1 (callAny (.ref u) ⟨rest, []⟩) _ _ _
  simp only [callAny]
  refine wpAny_bind (wpAny_load hu ?_)
  simp only [wrapV, show (Value.type "method-wrapper" == Value.type "method" || Value.type "method-wrapper" == Value.type "builtin_function_or_method" || Value.type "method-wrapper" == Value.type "method-wrapper") = true by decide, if_true]
  refine KFB.if_so (by decide) (wpAny_bind (checkV hC he rfl (wpAny_bind (wpAny_pure (wpAny_pure ⟨Code.quiet_builtin _ (by decide +kernel), codeAny_builtin PySem.F.excBase_ValueError.initEntry ?_⟩)))))
  rw [Around.under_plainId PySem.F.excBase_ValueError.init.plain _]
  wp_walk
  refine hq _ h.objs.size (fun b o hb ho => ?_) ?_
  · rw [Heap.get?_update_other _ _ (Ne.symm hb)]
    exact Heap.get?_push_of_some _ ho
  · rw [Heap.get?_update_self _ (Heap.get?_push_of_some _ he) rfl]
    rfl
end
end XI
end L3

set_option Elab.async false
set_option linter.all false
set_option maxRecDepth 100000
set_option maxHeartbeats 2000000
set_option autoImplicit false
/-! L3R: that __init__ as it runs. -/
namespace L3
open PySem L2 PyProof.Rows
namespace XI
/-- the two statements of that __init__ -/
abbrev initBody (p0 p1 p2 p3 p4 p5 p6 p7 p8 p9 : Pos) : List Stmt :=
  [.Expr (.Call (.Attribute (.Call (.Name "super" p0) [] [] p1) "__init__" p2) [.Name "value" p3] [] p4) p5, .Assign [.Attribute (.Name "self" p6) "value" p7] (.Name "value" p8) p9]
section
open PySem.W PySem.Calls
/-- what is known of an own class C over D over ValueError -/
structure Kind (K : Frag) (C D : Addr) : Prop where
  cls : ∃ nm q N bs bm sn sub ab col dd k0 k1 k2 k3 k5, K.lookup C = some (excClassObj nm q C N bs bm true sn sub ab col dd k0 k1 k2 k3 k5 "ValueError.__new__") ∧ PySem.HandSPX.refsVE bm = true ∧ ((Value.ref C :: bm).dropWhile (· != .ref D)).drop 1 = PySem.HandSPX.veTail ∧ (Value.ref C :: bm).contains (.ref D) = true
  sa : findIn K (.ref C) "__setattr__" = some (some (.builtin "object.__setattr__"))
  no : findIn K (.ref C) "value" = some none
variable {prog : Program} {w : World} {A : Around} {R : Result → Shared → Prop} {s : Shared} {K : Frag} {mg : Str → Option Value} {C D f x cc cda t0 : Addr} {u : Value} {oc kV doc pm ct ccl cl : Value} {od an cdd cld : Option Addr} {osl ccs csl : Array (Option Value)} {vs : Array Value} {file : Str} {tf : Tok} {qual : Str}
  {params : Arguments} {scope : Scope} {p0 p1 p2 p3 p4 p5 p6 p7 p8 p9 : Pos} {ar : Arg} {cdD : ClassData}
theorem beginV (T : Kind K C D) (X : K.In s.heap) (G : s.heap.Ns mainGlobals mg) (B : ∃ mb, s.heap.Ns builtinsNs mb ∧ ∀ y : Str, y ≠ "__name__" → mb y = bootBuiltins y) (NL : s.heap.NoLimit) (hroom : A.depth < recursionLimit)
    (ho : K.lookup f = some ⟨oc, od, .func (fnX "__init__" qual params (initBody p0 p1 p2 p3 p4 p5 p6 p7 p8 p9) scope [("__class__", cc)] .none kV doc pm an (.ref cda) ct), osl⟩) (hcd : codeIn K (.ref cda) qual = true)
    (hp : (params.posonlyargs ++ params.args).head? = some ar) (har : ar.arg = "self")
    (hbind : BindsTo s (fnX "__init__" qual params (initBody p0 p1 p2 p3 p4 p5 p6 p7 p8 p9) scope [("__class__", cc)] .none kV doc pm an (.ref cda) ct) ⟨[.ref x, u], []⟩ [("self", .ref x), ("value", u)])
    (hcode : K.lookup cda = some ⟨ccl, cdd, .fields vs, ccs⟩) (hvs : vs[2]? = some (.str file tf)) (hfile : ((prog.main.file : Str) == file) = true) (hcell : K.lookup cc = some ⟨cl, cld, .cell (some (.ref D)), csl⟩) (hD : clsIn K D = some cdD)
    (hno : nsIn K cStatics "thirdparty.any" = some none) (hsup : mg "super" = none) (htop : (prog.main.scope.names.lookup ("super" : Str)).isSome = false)
    (hks : scope.names.lookup ("super" : Str) = some .globalImplicit) (hkc : scope.names.lookup ("__class__" : Str) = some .free) (hka : scope.names.lookup ("self" : Str) = some .local) (hkv : scope.names.lookup ("value" : Str) = some .local)
    (hkind : scope.kind = .function) (hcells : ∀ x ∈ scope.names, x.2 ≠ .cell) (hco : scope.isCoroutine = false) (hgen : scope.isGenerator = false)
    (hx : s.heap.get? x = some (PySem.HandSPX.excO C t0)) (hKx : K.lookup x = none)
    (i1 : ∀ L, interactive (envX qual scope L f (.ref cda) [("__class__", cc)]) = false) (i2 : ∀ L, swapsWith (.Call (.Attribute (.Call (.Name "super" p0) [] [] p1) "__init__" p2) [.Name "value" p3] [] p4) none p5.line (envX qual scope L f (.ref cda) [("__class__", cc)]) = pure false)
    (i3 : ∀ L, ∃ pl : Sem Bool, eval (.Call (.Attribute (.Call (.Name "super" p0) [] [] p1) "__init__" p2) [.Name "value" p3] [] p4) (envX qual scope L f (.ref cda) [("__class__", cc)]) = (do
      let ov ← attributeBase (.Call (.Name "super" p0) [] [] p1) "__init__" (envX qual scope L f (.ref cda) [("__class__", cc)]) (eval (.Call (.Name "super" p0) [] [] p1) (envX qual scope L f (.ref cda) [("__class__", cc)]))
      standAt p2.atName
      let (f', first) ← holding [ov] (getMethod ov "__init__" pl)
      callWith p4 f' first (backTo p4 (starEach [.Name "value" p3] (envX qual scope L f (.ref cda) [("__class__", cc)]))) []))
    (i4 : ∀ L, swapsWith (.Name "value" p8) (some (.Attribute (.Name "self" p6) "value" p7)) p9.line (envX qual scope L f (.ref cda) [("__class__", cc)]) = pure false)
    (hq : ∀ h' tk' dx t1, (∀ b o, b ≠ x → s.heap.get? b = some o → h'.get? b = some o) → s.heap.get? dx = none → dx ≠ x → h'.get? x = some ({ cls := .ref C, dict := some dx, data := .fields #[.ref t1, .none, .none, .none, .bool false, .none] } : Obj) →
      h'.Ns1 dx (fun y => if y = ("value" : Str) then some u else none) → R (.ok (.ret .none)) { s with heap := h', toks := tk' }) :
    codeAny (model prog w) A (.call (.ref f) ⟨[.ref x, u], []⟩) R s := by
  obtain ⟨nm, q, N, bs, bm, sn, sub, ab, col, dd, k0, k1, k2, k3, k5, hCl, hbm, hdrop, hcont⟩ := T.cls
  have hclsC : clsIn K C = some { name := nm, bases := bs, mro := .ref C :: bm, ns := N, qualname := q, hasDict := true, slotNames := sn, subclasses := sub, abstract := ab, collection := col, hasDel := false } := by
    unfold clsIn
    rw [hCl] <;> rfl
  obtain ⟨oD, hDo, hDd⟩ : ∃ oD, K.lookup D = some oD ∧ oD.data = .cls cdD := by
    unfold clsIn at hD
    split at hD
    · rename_i ho'
      cases hD
      exact ⟨_, ho', rfl⟩
    · cases hD
  have hsub : mroIn K C (.ref D) = some true := by
    unfold mroIn
    rw [hclsC, Option.bind_some, if_neg (by simp), hcont]
  have hve : mroIn K C (.type "ValueError") = some true := by
    unfold mroIn
    rw [hclsC, Option.bind_some, if_neg (by simp)]
    show some ((Value.ref C :: bm).contains (.type "ValueError")) = some true
    rw [PySem.HandSPX.refsVE_contains "ValueError" (.ref C :: bm) hbm]
    rfl
  have hxC : x ≠ C := fun e => by rw [e, hCl] at hKx; cases hKx
  have in_of : ∀ {h' : Heap}, (∀ b o, b ≠ x → s.heap.get? b = some o → h'.get? b = some o) → K.In h' := fun k b o e => k b o (fun z => by rw [z, hKx] at e; cases e) (X b o e)
  refine PySem.ks_codeAny_call_defAt (binds := [("self", .ref x), ("value", u)]) hroom (X _ _ ho) rfl NL (codeRec_of X hcd) rfl hbind hcells (fun y hy => ?_) (fun h₀ hns hk => ?_) hco hgen hkind
  · rcases List.mem_cons.mp hy with rfl | hy
    · exact hka
    · rw [List.mem_singleton.mp hy]
      exact hkv
  have X₀ : K.In h₀ := in_of fun b o _ e => hk b o e
  have up₀ : ∀ {b : Addr} {m : Str → Option Value}, s.heap.Ns b m → h₀.Ns b m := fun hn => hn.keeps hk
  have hself : (fun y => ([("self", Value.ref x), ("value", u)] : List (Str × Value)).reverse.lookup y) ("self" : Str) = some (.ref x) := by
    show List.lookup ("self" : Str) [("value", u), ("self", Value.ref x)] = _
    rw [List.lookup_cons, show (("self" : Str) == "value") = false by decide +kernel]
    show List.lookup ("self" : Str) [("self", Value.ref x)] = _
    rw [List.lookup_cons, show (("self" : Str) == "self") = true by decide +kernel]
  have hvalue : (fun y => ([("self", Value.ref x), ("value", u)] : List (Str × Value)).reverse.lookup y) ("value" : Str) = some u := by
    show List.lookup ("value" : Str) [("value", u), ("self", Value.ref x)] = _
    rw [List.lookup_cons, show (("value" : Str) == "value") = true by decide +kernel]
  show _root_.PySem.wpAt (model prog w) (A.deeper (envX qual scope s.heap.objs.size f (.ref cda) [("__class__", cc)])) (.func (initBody p0 p1 p2 p3 p4 p5 p6 p7 p8 p9) (envX qual scope s.heap.objs.size f (.ref cda) [("__class__", cc)])) (execs (initBody p0 p1 p2 p3 p4 p5 p6 p7 p8 p9) (envX qual scope s.heap.objs.size f (.ref cda) [("__class__", cc)])) _ _ _
  obtain ⟨hp0, g, d, t, os⟩ := s
  obtain ⟨mb, hmb, hbb⟩ := B
  obtain ⟨pl, i3⟩ := i3 hp0.objs.size
  refine PySem.ks_wpAt_execs_cons (PySem.ks_wpAt_Expr_any (PySem.ks_wpAt_MethodCall (pl := pl) (PySem.ks_wpAt_super_base (env := envX qual scope hp0.objs.size f (.ref cda) [("__class__", cc)]) hks hkc (by decide +kernel) rfl (X₀ _ _ ho) rfl hp rfl (X₀ _ _ hcode) rfl hvs hfile htop ?_) i3) (i1 _) (i2 _))
  refine ks_loadName_global hkind hks (loadGlobal_builtin (env := envX qual scope hp0.objs.size f (.ref cda) [("__class__", cc)]) (up₀ G) hsup (up₀ hmb) ((hbb _ (by decide +kernel)).trans (show bootBuiltins "super" = some (.type "super") by decide +kernel)) ⟨rfl, ?_⟩)
  refine wpAny_loadName_free hkind hkc rfl ⟨_, X₀ _ _ hcell, rfl⟩ ?_
  rw [har]
  refine wpAny_loadName_local hkind hka hns hself ?_
  refine PySem.ks_wpAny_isType_cls (X₀ _ _ hDo) hDd ⟨rfl, ?_⟩
  have hx₀ : h₀.get? x = some (PySem.HandSPX.excO C t0) := hk _ _ hx
  refine PySem.ks_wpAny_call_super (X₀ _ _ hDo) hDd hx₀ rfl (fun c e => by cases e) (looks_mroIn X₀ hsub) (fun h1 e1 k1 => ?_)
  have X₁ : K.In h1 := X₀.keeps k1
  have I₁ : InstAt h1 x (PySem.HandSPX.excO C t0) C none := ⟨k1 _ _ hx₀, rfl, rfl, trivial⟩
  refine methV (alongV K) (by decide +kernel) e1 (looks_opaque X₁ hno) (l₀ := .ref C :: bm) (fun A Q E s k z => wpAny_bind ((looks_clsIn X₁ hclsC) A _ E s k (wpAny_pure z))) hdrop X₁ hxC (I₁.type.andThen (looks_mroIn X₁ hve)) ?_
  have k2 : ∀ b o, h1.get? b = some o → (h1.push (wrapV x)).get? b = some o := fun b o e => Heap.get?_push_of_some _ e
  have hns2 : (h1.push (wrapV x)).Ns hp0.objs.size (fun y => ([("self", Value.ref x), ("value", u)] : List (Str × Value)).reverse.lookup y) := (hns.keeps k1).keeps k2
  refine callWithV (x := x) (wpAny_Name (wpAny_loadName_local hkind hkv hns2 hvalue ⟨Heap.get?_push_at rfl rfl, ?_⟩) (by decide))
  refine callV (X₁.keeps k2 _ _ hCl) (k2 _ _ (k1 _ _ hx₀)) (Heap.get?_push_at rfl rfl) (by show 1 ≤ sizeLine; rw [sizeLine_eq]; omega) (fun h3 t1 k3 e3 => ?_)
  have kk : ∀ b o, b ≠ x → hp0.get? b = some o → h3.get? b = some o := fun b o n e => k3 b o n (k2 _ _ (k1 _ _ (hk _ _ e)))
  have X₃ : K.In h3 := in_of kk
  have hL : hp0.objs.size ≠ x := Nat.ne_of_gt (Heap.lt_size (h := hp0) hx)
  have hns3 : h3.Ns hp0.objs.size (fun y => ([("self", Value.ref x), ("value", u)] : List (Str × Value)).reverse.lookup y) := by
    obtain ⟨o, es, ep, e, r⟩ := hns2
    exact ⟨o, es, ep, k3 _ _ hL e, r⟩
  refine PySem.ks_wpAt_execs_cons (wpAt_of_wpAny (plainObj_wpAny_Assign_Attribute (wpAny_Name (wpAny_loadName_local hkind hkv hns3 hvalue (wpAny_Name (wpAny_loadName_local hkind hka hns3 hself ?_) (by decide))) (by decide)) (i4 _)))
  refine set_plain X₃ (ox := PySem.HandSPX.excO C t1) (od := none) ⟨e3, rfl, rfl, trivial⟩ T.sa ?_
  refine PySem.HandSPX.exc_osa X₃ e3 hclsC hbm rfl T.no (fun h4 tk dx k4 hd1 hd2 hx4 hn4 => ?_)
  refine wpAt_of_wpAny (wpAny_execs_nil ?_)
  refine hq h4 tk dx t1 (fun b o n e => k4 b o n (kk b o n e)) ?_ hd2 hx4 hn4
  cases z : hp0.get? dx with
  | none => rfl
  | some o =>
    have lt : dx < h3.objs.size := Heap.lt_size (kk dx o hd2 z)
    have ge : h3.objs.size ≤ dx := hd1
    omega
end
end XI
end L3

set_option Elab.async false
set_option linter.all false
set_option maxRecDepth 100000
set_option maxHeartbeats 2000000
set_option autoImplicit false
/-! L3S: defs that raise, try, over L3. -/
namespace L3
open PySem L2 PyProof.Rows
variable {bb : Birth}
theorem takesN0 {X : Cx} : L2N.Takes X (fun _ _ _ _ => False) := fun _ _ x => by
  obtain ⟨_, _, _, _, _, _, _, _, _, _, _, _, _, _, _, _, z⟩ := x
  exact z.elim
open XI in
/-- the __init__ of D at f, as it runs for an exception of a kind C -/
structure HInit (P : Program) (w : World) (K : PySem.W.Frag) (mg : Str → Option Value) (D f : Addr) : Prop where
  run : ∀ {A : Around} {R : Result → Shared → Prop} {s : Shared} {C x t0 : Addr} {u : Value}, Kind K C D → K.In s.heap → s.heap.Ns mainGlobals mg → (∃ mb, s.heap.Ns builtinsNs mb ∧ ∀ y : Str, y ≠ "__name__" → mb y = bootBuiltins y) → s.heap.NoLimit → A.depth < recursionLimit →
    s.heap.get? x = some (PySem.HandSPX.excO C t0) → K.lookup x = none →
    (∀ h' tk' dx t1, (∀ b o, b ≠ x → s.heap.get? b = some o → h'.get? b = some o) → s.heap.get? dx = none → dx ≠ x → h'.get? x = some ({ cls := .ref C, dict := some dx, data := .fields #[.ref t1, .none, .none, .none, .bool false, .none] } : Obj) →
      h'.Ns1 dx (fun y => if y = ("value" : Str) then some u else none) → R (.ok (.ret .none)) { s with heap := h', toks := tk' }) →
    codeAny (model P w) A (.call (.ref f) ⟨[.ref x, u], []⟩) R s
  ty : PySem.W.typeIn K (.ref f) = some (.type "function")
/-- a class that may be raised -/
structure Exn (P : Program) (w : World) (K : PySem.W.Frag) (mg : Str → Option Value) (D f : Addr) (C : Addr) : Prop where
  kind : XI.Kind K C D
  ini : PySem.W.findIn K (.ref C) "__init__" = some (some (.ref f))
  kp : PySem.W.keepIn K (.ref C) = true
  sub : PySem.W.subIn K (.ref C) (.type "BaseException") = some true
  ty : PySem.W.typeIn K (.ref C) = some (.type "type")
  xf : XfC K C
/-- d: the dict of an exception that keeps v -/
def XdIs (K : PySem.W.Frag) (H : Hp) (S : Store) (d : Addr) (v : AV) : Prop := S d = none ∧ ∃ y, H d = some (.xd [(("value" : Str), y)]) ∧ RelA K H S y v
/-- C(e) -/
def tMkV (C : Addr) (te : TE) : L2.St → Hp → XK → Prop := fun σ H Q => te σ H fun y H1 => ∀ d, H1 d = none → Q (.ref C) (some d) (upd H1 d (.xd [(("value" : Str), y)]))
theorem rel_look {y : V} {u : Value} (r : RelV y u) (f : Str) : RelO (([(("value" : Str), y)] : List (Str × V)).lookup f) (if f = ("value" : Str) then some u else none) := by
  by_cases h : f = "value"
  · subst h
    rw [if_pos rfl, show List.lookup ("value" : Str) [(("value" : Str), y)] = some y by simp [List.lookup]]
    exact r
  · rw [if_neg h]
    have e : (f == ("value" : Str)) = false := by simpa using h
    rw [show List.lookup f [(("value" : Str), y)] = none by simp [List.lookup, e]]
    exact True.intro
section
variable {X : Cx} {C D f : Addr} {x : Str} {e : Expr} {te : TE} {p pos : Pos}
theorem pmkV (HI : HInit X.prog X.w X.K X.mg D f) (T : Exn X.prog X.w X.K X.mg D f C) (hm : X.mg x = some (.ref C)) (hr : Room 1 X.A) (he : PE X e te) (hg : Gl X x := by rfl) (hdb : (x == ("__debug__" : Str)) = false := by decide)
    (hs : starEach [e] X.env = (false, eval e X.env) :: starEach [] X.env := by rfl) : L2N.PMk X (.Call (.Name x p) [e] [] pos) (tMkV C te) := by
  intro pins s σ H Q I h
  obtain ⟨nm, q, N, bs, bm, sn, sub, ab, col, dd, k0, k1, k2, k3, k5, hC, hbm, _, _⟩ := T.kind.cls
  refine wpAny_Call_Name_kw (ld_glob I hg hm ?_ hdb)
  refine PySem.W.callWith_K (h₀ := X.base) I.ok.mod.kin T.kp ?_ hs (by rfl)
  rw [hs]
  show wpAny _ _ (spliced ((false, eval e X.env) :: backTo pos (starEach [] X.env))) _ _ s
  refine Calls.spliced_cons (thn (he.run pins s σ H _ I h) fun u s1 ⟨y, H1, I1, r1, q1⟩ => Calls.spliced_nil ⟨I1.kIn, ?_⟩)
  show wpAny _ _ (call (.ref C) [u]) _ _ _
  obtain ⟨hp, g, dr, tk, os⟩ := s1
  have env := I1.env0
  have kk : ∀ b o, hp.get? b = some o → ((hp.push (PySem.W.kdv_tup [u])).push (PySem.HandSPX.excO C hp.objs.size)).get? b = some o := fun b o z => Heap.get?_push_of_some _ (Heap.get?_push_of_some _ z)
  have base : ∀ b o, X.base.get? b = some o → ((hp.push (PySem.W.kdv_tup [u])).push (PySem.HandSPX.excO C hp.objs.size)).get? b = some o := fun b o z => kk b o (env.bs b o z).1
  have hget : ((hp.push (PySem.W.kdv_tup [u])).push (PySem.HandSPX.excO C hp.objs.size)).get? (hp.objs.size + 1) = some (PySem.HandSPX.excO C hp.objs.size) := by heap_get
  have newx : ∀ o, hp.get? (hp.objs.size + 1) ≠ some o := fun o z => absurd (Heap.lt_size z) (Nat.not_lt.mpr (Nat.le_succ _))
  refine wpAny_call (PySem.HandSPX.call_own PySem.F.excBase_ValueError (fun Y => PySem.HandSPX.refsVE_contains Y bm hbm) (I1.kIn _ _ hC) (PySem.W.looks_findIn I1.kIn T.ini) (fun self => PySem.W.bind_fn I1.kIn self HI.ty) (by show 1 ≤ sizeLine; rw [sizeLine_eq]; omega)
    (HI.run T.kind (env.mod.kin.keeps base) (env.mod.glob.keeps base) (by obtain ⟨mb, a, b⟩ := env.mod.blt; exact ⟨mb, a.keeps base, b⟩) (by obtain ⟨mc, a, b⟩ := env.mod.nolimit; exact ⟨mc, a.keeps base, b⟩) (hr.make C [u] []).depth hget (by
      cases z : X.K.lookup (hp.objs.size + 1) with
      | none => rfl
      | some o => exact absurd (I1.kIn _ _ z) (newx o)) fun h' tk' dx t1 k1 hdx hne hx hns => ?_))
  refine ⟨rfl, ?_⟩
  -- the exception stands; the state without it is a state of ours
  obtain ⟨G, g1, g2⟩ := restrict h' fun b => decide (b ≠ hp.objs.size + 1)
  have gk : ∀ b, b ≠ hp.objs.size + 1 → G.get? b = h'.get? b := fun b hb => g1 b (decide_eq_true hb)
  have ge : G.get? (hp.objs.size + 1) = none := g2 _ (by simp)
  have toG : ∀ b o, hp.get? b = some o → G.get? b = some o := fun b o z => by
    have hb : b ≠ hp.objs.size + 1 := fun e => newx o (by rw [← e]; exact z)
    rw [gk b hb]
    exact k1 b o hb (kk b o z)
  have ofG : ∀ b o, G.get? b = some o → h'.get? b = some o := fun b o z => by
    by_cases hb : b = hp.objs.size + 1
    · rw [hb, ge] at z
      cases z
    · rw [← gk b hb]
      exact z
  have hd0 : hp.get? dx = none := by
    cases z : hp.get? dx with
    | none => rfl
    | some o =>
      have h2 : ((hp.push (PySem.W.kdv_tup [u])).push (PySem.HandSPX.excO C hp.objs.size)).get? dx = none := hdx
      rw [kk dx o z] at h2
      cases h2
  have hn1 : H1 dx = none := I1.hok.gone hd0
  have na : H1 (hp.objs.size + 1) = none := I1.hok.fresh (Nat.le_succ _)
  have hnsG : G.Ns1 dx (fun y => if y = ("value" : Str) then some u else none) := hns.at fun o z => (gk dx hne).trans z
  have J : Inv X pins σ (upd H1 dx (.xd [(("value" : Str), y)])) ⟨G, g, dr, tk', os⟩ := I1.laidN (t' := tk') toG hd0 hn1 ⟨_, hnsG, rel_look r1⟩
  exact ⟨hp.objs.size + 1, _, _, ⟨G, g, dr, tk', os⟩, _, .ref C, some dx, rfl, J, ofG, ge, hx, ⟨rfl, rfl, fun vs e => by cases e; rfl⟩, rfl, rfl, by rw [upd_ne (Ne.symm hne)]; exact na, rfl, I1.bare, raises_own T.sub T.ty, q1 dx hn1⟩
end

/-! ### wishes about exceptions -/
abbrev EXw := ASt → Addr → AV → Store → Prop
/-- what is wished of an exception of the class C with v is enough for the context -/
structure TkX (X : Cx) (bb : Birth) (EX : EXw) : Prop where
  ex : ∃ W : WX, L2N.Takes X W ∧ ∀ (C d : Addr) (v : AV) (σ : L2.St) (τ : ASt) (H : Hp) (S : Store), Rp (kx X bb) H S σ τ → StOk X.K H S → XdIs X.K H S d v → EX τ C v S → W (.ref C) (some d) σ H
theorem XdIs.step {K : PySem.W.Frag} {H H' : Hp} {S S' : Store} {d : Addr} {v : AV} (x : XdIs K H S d v) (st : Step H S H' S') : XdIs K H' S' d v := let ⟨n, y, h, r⟩ := x; ⟨(st.old d _ n h).2, y, (st.old d _ n h).1, r.step st⟩
/-- raise C(e) -/
def aRaise (C : Addr) (EX : EXw) (ta : AE) : AS := fun _ τ S => ta τ S fun v S1 => EX τ C v S1
section
variable {X : Cx} {C D f : Addr} {x : Str} {e : Expr} {ta : AE} {EX : EXw} {p pos pos2 : Pos}
theorem s_raise (HI : HInit X.prog X.w X.K X.mg D f) (T : Exn X.prog X.w X.K X.mg D f C) (hm : X.mg x = some (.ref C)) (hr : Room 1 X.A) (tk : TkX X bb EX) (he : PE X e (low (kx X bb) ta)) (hc : X.calm = true := by rfl) (hg : Gl X x := by rfl) (hdb : (x == ("__debug__" : Str)) = false := by decide)
    (hs : starEach [e] X.env = (false, eval e X.env) :: starEach [] X.env := by rfl) : PS X (.Raise (some (.Call (.Name x p) [e] [] pos)) none pos2) (lowS (kx X bb) (aRaise C EX ta)) := by
  obtain ⟨W, tw, hw⟩ := tk.ex
  refine (L2N.ps_raise hc tw (pmkV HI T hm hr he hg hdb hs)).weak fun DH σ H ⟨τ, S, DA, R, so, q, k⟩ => ⟨τ, S, _, R, so, q, fun y H1 dv S1 so1 st1 r1 q1 => fun d hd => ?_⟩
  exact hw C d dv σ τ _ S1 ((R.step st1).step (step_new so1 hd)) (stok_new so1 hd) ⟨so1.fresh hd, y, upd_same, r1.step (step_new so1 hd)⟩ q1
end

/-! ### promises of defs that raise -/
abbrev ASpX := List AV → Store → AK → (Addr → AV → Store → Prop) → Prop
def spOfX (K : PySem.W.Frag) (asp : ASpX) : Sp := fun vs H QH EH => ∃ ds S Q EX, RelAs K H S vs ds ∧ StOk K H S ∧ asp ds S Q EX ∧ (∀ d S' v H', StOk K H' S' → Step H S H' S' → RelA K H' S' v d → Q d S' → QH v H') ∧
  ∀ C d v H' S', StOk K H' S' → Step H S H' S' → XdIs K H' S' d v → EX C v S' → EH (.ref C) (some d) H'
structure FnGX (P : Program) (w : World) (K : PySem.W.Frag) (mg : Str → Option Value) (base : Heap) (k : Nat) (f : Addr) (fd : FuncData) (ps : List Str) (sp : Sp) : Prop where
  len : ∀ vs H Q E, sp vs H Q E → vs.length = ps.length
  go : ∀ (A : Around), A.guards = some [] → Room k A → ∀ (out : List Env) (s : Shared) (H : Hp) (ar : Args) (us : List Value) (vs : List V) (Q : VK) (E : XK), Env0 P w K mg base A out s H → BindsTo s fd ar (ps.zip us) → Vals vs us → sp vs H Q E →
    codeAny (model P w) A (.call (.ref f) ar) (fun r s' => CR (L2N.CX P w) out P w H s Q E r s') s
section
variable {P : Program} {w : World} {K : PySem.W.Frag} {mg : Str → Option Value} {base : Heap}
theorem FnGX.up {j k : Nat} {f : Addr} {fd : FuncData} {ps : List Str} {sp : Sp} (F : FnGX P w K mg base j f fd ps sp) (h : j ≤ k) : FnGX P w K mg base k f fd ps sp := ⟨F.len, fun A g hr => F.go A g (hr.mono h)⟩
/-- a def that may raise, by its body -/
theorem fngx_of {x qual : Str} {st : Stmt} {f : Addr} {fd : FuncData} {N ps : List Str} {k : Nat} {sp : Sp} (F : L2.Fun K x qual st f fd) (S : FnScope N ps (defScope st)) (len : ∀ vs H Q E, sp vs H Q E → vs.length = ps.length)
    (body : ∀ (cdv : Value) (A : Around), A.guards = some [] → ∀ (out : List Env) (s : Shared) (H : Hp) (vs : List V) (Q : VK) (E : XK), Room k (A.deeper (envOfC qual (defScope st) s.heap.objs.size f cdv)) → sp vs H Q E →
      ∃ t, PSs (cxOf (L2N.CX P w) P w K mg base N qual (defScope st) f cdv A out s H E) (defBody st) t ∧ t { nx := fun _ H' => Q .non H', rt := Q } (L2.start N vs) H) : FnGX P w K mg base (k + 1) f fd ps sp := by
  obtain ⟨oc, od, kV, doc, pm, an, cdv, ct, osl, rfl, lk, hcd⟩ := F.ex
  refine ⟨len, fun A hgd hr out s H ar us vs Q E e0 hb rv h => ?_⟩
  have kin : K.In s.heap := e0.mod.kin.keeps fun b o z => (e0.bs b o z).1
  have nol : s.heap.NoLimit := e0.mod.nolimit.keeps fun b o z => (e0.bs b o z).1
  have kinds : ∀ y ∈ ps.zip us, (defScope st).names.lookup y.1 = some .local ∨ ((defScope st).names.lookup y.1 = some .cell ∧ ((cellsFrom (s.heap.objs.size + 1) (defScope st).names []).lookup y.1).isSome = true) := by
    intro z hz
    cases S.par z.1 (List.of_mem_zip (a := z.1) (b := z.2) hz).1 with
    | inl q => exact Or.inl q
    | inr q => exact Or.inr ⟨q, PySem.W.cellsFrom_some _ _ _ (Or.inl q)⟩
  refine codeAny_call_function hr.depth (kin _ _ lk) rfl S.co S.gen rfl (PySem.W.codeRec_of kin hcd) (hb _ _ _ _ ?_)
  refine wpAny_newFunctionEnv_cells S.kind kinds fun env he s1 ic => ?_
  subst he
  refine ⟨nol.keeps ic.toInCall.keep, codeAny_func ?_⟩
  obtain ⟨t, ht, q⟩ := body cdv A hgd out s H vs Q E (hr.deeper _) h
  have J0 := inv_start (CX := L2N.CX P w) (E := E) S hr.hd e0 (len vs H Q E h) rv ic
  refine wpAny_mono (ht.run [] s1 (L2.start N vs) H _ J0 q) (fun fl s2 z => ?_) fun e s2 z => z
  cases fl with
  | brk => obtain ⟨_, _, _, z⟩ := z; cases z
  | cont => obtain ⟨_, _, _, z⟩ := z; cases z
  | next => obtain ⟨σ2, H2, J, z⟩ := z; exact ⟨V.non, H2, J.os, J.bare, J.base, J.hok, rfl, z⟩
  | ret u => obtain ⟨v, σ2, H2, J, r2, z⟩ := z; exact ⟨v, H2, J.os, J.bare, J.base, J.hok, r2, z⟩
/-- THE RULE for a def that may raise, over L3 -/
theorem _root_.L2.Fun.ok4X {x qual : Str} {st : Stmt} {f : Addr} {fd : FuncData} {N ps : List Str} {k : Nat} {asp : ASpX} (F : L2.Fun K x qual st f fd) (Sc : FnScope N ps (defScope st)) (len : ∀ ds S Q E, asp ds S Q E → ds.length = ps.length)
    (hbody : ∀ (cdv : Value) (A : Around), A.guards = some [] → ∀ (outer : List Env) (s : Shared) (H : Hp) (E : XK) (S : Store) (EX : EXw), Room k (A.deeper (envOfC qual (defScope st) s.heap.objs.size f cdv)) → TkX (cxOf (L2N.CX P w) P w K mg base N qual (defScope st) f cdv A outer s H E) (bornAt H S) EX →
      PassesOwn (model P w) (cxOf (L2N.CX P w) P w K mg base N qual (defScope st) f cdv A outer s H E).A (cxOf (L2N.CX P w) P w K mg base N qual (defScope st) f cdv A outer s H E).env (cxOf (L2N.CX P w) P w K mg base N qual (defScope st) f cdv A outer s H E).xe →
      ∃ as, PSs (cxOf (L2N.CX P w) P w K mg base N qual (defScope st) f cdv A outer s H E) (defBody st) (lowS ⟨K, bornAt H S⟩ as) ∧ ∀ ds Q EX', asp ds S Q EX' → (∀ τ C v S', EX' C v S' → EX τ C v S') → as { nx := fun _ S' => RtW Q .non S', rt := RtW Q } (startA N ds) S) :
    FnGX P w K mg base (k + 1) f fd ps (spOfX K asp) :=
  fngx_of F Sc (fun vs H Q E h => by obtain ⟨ds, S, Q', EX, r, so, q, _⟩ := h; rw [r.length]; exact len ds S Q' EX q) fun cdv A gd outer s H vs QH E hr h => by
    obtain ⟨ds, S, Q, EX', r, so, q, k, kE⟩ := h
    have tk : TkX (cxOf (L2N.CX P w) P w K mg base N qual (defScope st) f cdv A outer s H E) (bornAt H S) (fun _ C v S' => EX' C v S') := ⟨⟨fun cls d _ H => E cls d H, L2N.takes_of rfl rfl rfl rfl, fun C d v σ τ H' S' R so' xd ex => kE C d v H' S' so' R.bt xd ex⟩⟩
    obtain ⟨as, hp, ha⟩ := hbody cdv A gd outer s H E S _ hr tk (passes_of rfl)
    have rt : ∀ v H' d S', StOk K H' S' → Step H S H' S' → RelA K H' S' v d → RtW Q d S' → QH v H' := fun v H' d S' so' st' r' ⟨d2, S2, sb, hd, q2⟩ => by
      rcases hd with rfl | ⟨l, ds, rfl, hl, hn, rfl⟩
      · exact k d2 S2 v H' (so'.sub sb) (st'.subR sb) (r'.sub sb) q2
      · obtain rfl := rel_refE r'
        obtain ⟨vs, hv, rv⟩ := so' l _ hl
        exact k _ S2 _ H' (so'.sub sb) (st'.subR sb) (.lst hv hn (rv.sub sb)) q2
    exact ⟨_, hp, startA N ds, S, _, rp_start (k := ⟨K, bornAt H S⟩) Step.refl r, so, ha ds Q EX' q (fun _ _ _ _ h => h), fun σ' H' τ' S' so' st' _ q' => rt .non H' .non S' so' st' .non q', rt, fun _ _ _ _ _ _ _ z => z.elim, fun _ _ _ _ _ _ _ z => z.elim⟩
end
/-- the callee runs -/
theorem run_gx {X : Cx} {k : Nat} {f : Addr} {fd : FuncData} {ps : List Str} {sp : Sp} {E : XK} {pins : List (Addr × Obj)} {σ : L2.St} {H : Hp} {s : Shared} {Q : VK} {us : List Value} {vs : List V} (F : FnGX X.prog X.w X.K X.mg X.base k f fd ps sp) (hg : X.A.guards = some [])
    (hr : Room k X.A) (hb : Binds X.K fd ps []) (hx : PassesAt (L2N.CX X.prog X.w) X σ E) (I : Inv X pins σ H s) (r : Vals vs us) (h : sp vs H Q E) : wpAny (model X.prog X.w) X.A (call (.ref f) us) (fun u s' => EP X pins σ Q u s') X.xe s := by
  have hl : (us ++ []).length = ps.length := by rw [List.append_nil, ← r.length]; exact F.len _ _ _ _ h
  have b := hb s us I.kIn hl
  rw [List.append_nil] at b
  refine wpAny_call (codeAny_mono (F.go X.A hg hr X.stack s H ⟨us, []⟩ us vs Q E I.env0 b r h) fun r' s' z => ?_)
  cases r' with
  | error e => exact hx pins H s e s' I z
  | ok fl =>
    cases fl with
    | brk => exact z.elim
    | cont => exact z.elim
    | next => exact z.elim
    | ret u => exact I.after z
structure Fn4X (P : Program) (w : World) (K : PySem.W.Frag) (mg : Str → Option Value) (base : Heap) (k : Nat) (x : Str) (ps : List Str) (asp : ASpX) : Prop where
  ex : ∃ (f : Addr) (fd : FuncData), FnGX P w K mg base k f fd ps (spOfX K asp) ∧ mg x = some (.ref f) ∧ PySem.W.keepIn K (.ref f) = true ∧ Binds K fd ps []
/-- a def that may raise, with its promise -/
structure FnXX (P : Program) (w : World) (K : PySem.W.Frag) (mg : Str → Option Value) (base : Heap) (k : Nat) (x : Str) (st : Stmt) (ps : List Str) (asp : ASpX) : Prop where
  ex : ∃ (f : Addr) (fd : FuncData), L2.Fun K x x st f fd ∧ FnGX P w K mg base k f fd ps (spOfX K asp) ∧ mg x = some (.ref f) ∧ Binds K fd ps []
structure FnMX (P : Program) (w : World) (K : PySem.W.Frag) (mg : Str → Option Value) (base : Heap) (k : Nat) (C : Addr) (m qual : Str) (st : Stmt) (ps : List Str) (asp : ASpX) : Prop where
  ex : ∃ (f : Addr) (fd : FuncData), L2.Fun K m qual st f fd ∧ FnGX P w K mg base k f fd ps (spOfX K asp) ∧ Meth K C m f ∧ Binds K fd ps []
section
variable {P : Program} {w : World} {K : PySem.W.Frag} {mg : Str → Option Value} {base : Heap} {k : Nat} {x m qual : Str} {C : Addr} {st : Stmt} {ps : List Str} {asp : ASpX}
theorem FnXX.f4 (F : FnXX P w K mg base k x st ps asp) : Fn4X P w K mg base k x ps asp := let ⟨f, fd, G, h, hm, hb⟩ := F.ex; ⟨f, fd, h, hm, G.kp, hb⟩
theorem FnXX.of (D : Def K mg x st ps) (h : ∀ f fd, L2.Fun K x x st f fd → FnGX P w K mg base k f fd ps (spOfX K asp)) : FnXX P w K mg base k x st ps asp := let ⟨f, fd, G, hm, hb⟩ := D.ex; ⟨f, fd, G, h f fd G, hm, hb⟩
theorem FnMX.of (D : MethD K C m qual st ps) (h : ∀ f fd, L2.Fun K m qual st f fd → FnGX P w K mg base k f fd ps (spOfX K asp)) : FnMX P w K mg base k C m qual st ps asp := let ⟨f, fd, G, hm, hb⟩ := D.ex; ⟨f, fd, G, h f fd G, hm, hb⟩
end
/-- f(e, ..), f may raise -/
def aCallX (asp : ASpX) (EX : EXw) (t : AA) : AE := fun τ S Q => t τ S fun ds S1 => asp ds S1 Q (EX τ)
def aMethX (C : Addr) (m : Str) (asp : ASpX) (EX : EXw) (to : AE) (t : AA) : AE := fun τ S Q => to τ S fun x S1 => ∃ a fs, x = .ref a ∧ S1 a = some (.ins C fs) ∧ fs.lookup m = none ∧ t τ S1 fun ds S2 => asp (x :: ds) S2 Q (EX τ)
section
variable {X : Cx} {e o : Expr} {es : List Expr} {to : AE} {t : AA} {pos p apos : Pos} {k : Nat} {x m qual : Str} {st : Stmt} {C : Addr} {ps : List Str} {asp : ASpX} {EX : EXw}
theorem f_callX (tk : TkX X bb EX) (F : Fn4X X.prog X.w X.K X.mg X.base k x ps asp) (gd : X.A.guards = some []) (hr : Room k X.A) (ha : PA X (e :: es) (lowA (kx X bb) t)) (hg : Gl X x := by rfl)
    (hdb : (x == ("__debug__" : Str)) = false := by decide) (he : starEach (e :: es) X.env = (false, eval e X.env) :: starEach es X.env := by rfl) (hpl : (backTo pos (starEach es X.env)).any (·.1) = false := by rfl) :
    PE X (.Call (.Name x p) (e :: es) [] pos) (low (kx X bb) (aCallX asp EX t)) := by
  obtain ⟨f, fd, G, hm, hk, hb⟩ := F.ex
  obtain ⟨W, tw, hw⟩ := tk.ex
  refine ⟨fun pins s σ H QH I ⟨τ, S, Q, R, so, q, kk⟩ => ?_⟩
  refine wpAny_Call_Name_kw (ld_glob I hg hm ?_ hdb)
  refine PySem.W.callWith_K (h₀ := X.base) I.ok.mod.kin hk (thn (ha.run pos pins s σ H (fun vs H1 => ∃ ds S1, StOk X.K H1 S1 ∧ Step H S H1 S1 ∧ RelAs X.K H1 S1 vs ds ∧ asp ds S1 Q (EX τ)) I ⟨τ, S, _, R, so, q, fun vs H1 ds S1 so1 st1 r1 q1 => ⟨ds, S1, so1, st1, r1, q1⟩⟩) fun us s1 z => ?_) he hpl
  obtain ⟨vs, H1, I1, r, ds, S1, so1, st1, r1, q1⟩ := z
  exact ⟨I1.kIn, run_gx G gd hr hb (L2N.passAt tw σ) I1 r ⟨ds, S1, Q, EX τ, r1, so1, q1, fun d S' v H' so' st' r' q' => kk v H' d S' so' (st1.trans st') r' q', fun C d v H' S' so' st' xd ex => hw C d v σ τ H' S' (R.step (st1.trans st')) so' xd ex⟩⟩
theorem e_methX {pl : Sem Bool} (tk : TkX X bb EX) (F : FnMX X.prog X.w X.K X.mg X.base k C m qual st ps asp) (c : Cls X.K C) (gd : X.A.guards = some []) (hr : Room k X.A) (he : PE X o (low (kx X bb) to)) (ha : PA X (e :: es) (lowA (kx X bb) t))
    (hst : starEach (e :: es) X.env = (false, eval e X.env) :: starEach es X.env := by rfl) (hpl : (backTo pos (starEach es X.env)).any (·.1) = false := by rfl)
    (ht : eval (.Call (.Attribute o m apos) (e :: es) [] pos) X.env = (do
      let ov ← eval o X.env
      standAt apos.atName
      let (f, first) ← holding [ov] (getMethod ov m pl)
      callWith pos f first (backTo pos (starEach (e :: es) X.env)) (backToKw pos (keywordEach [] X.env))) := by rfl) :
    PE X (.Call (.Attribute o m apos) (e :: es) [] pos) (low (kx X bb) (aMethX C m asp EX to t)) := by
  obtain ⟨f, fd, _, G, hm, hb⟩ := F.ex
  obtain ⟨W, tw, hw⟩ := tk.ex
  refine ⟨fun pins s σ H QH I ⟨τ, S, Q, R, so, q, kk⟩ => ?_⟩
  refine PySem.W.methodCall_KW (pl := pl) (thn (he.run pins s σ H (fun v H1 => ∃ a fs S1, StOk X.K H1 S1 ∧ Step H S H1 S1 ∧ v = .ref a ∧ S1 a = some (.ins C fs) ∧ fs.lookup m = none ∧ t τ S1 fun ds S2 => asp (.ref a :: ds) S2 Q (EX τ)) I
    ⟨τ, S, _, R, so, q, fun v H1 d S1 so1 st1 r1 ⟨a, fs, ed, hs, hl, q1⟩ => by subst ed; exact ⟨a, fs, S1, so1, st1, rel_refE r1, hs, hl, q1⟩⟩) fun u s1 z => ?_) ht
  obtain ⟨v, H1, I1, rx, a, fs, S1, so1, st1, ev, hs, hl, q1⟩ := z
  subst ev
  obtain rfl : u = Value.ref a := rx
  obtain ⟨dx, fv, h1, rf⟩ := insE so1 hs
  refine getmeth_ok I1 h1 c hm (rf.none hl) ?_
  refine PySem.W.callWith_K (first := [.ref a]) (h₀ := X.base) I1.ok.mod.kin hm.kp (thn (ha.run pos pins s1 σ H1 (fun vs H2 => ∃ ds S2, StOk X.K H2 S2 ∧ Step H1 S1 H2 S2 ∧ RelAs X.K H2 S2 vs ds ∧ asp (.ref a :: ds) S2 Q (EX τ)) I1
    ⟨τ, S1, _, R.step st1, so1, q1, fun vs H2 ds S2 so2 st2 r2 q2 => ⟨ds, S2, so2, st2, r2, q2⟩⟩) fun us s2 z => ?_) hst hpl
  obtain ⟨vs, H2, I2, r, ds, S2, so2, st2, r2, q2⟩ := z
  exact ⟨I2.kIn, run_gx (us := .ref a :: us) (vs := .ref a :: vs) G gd hr hb (L2N.passAt tw σ) I2 (.cons rfl r) ⟨.ref a :: ds, S2, Q, EX τ, .cons (.ref a) r2, so2, q2, fun d S' v H' so' st' r' q' => kk v H' d S' so' ((st1.trans st2).trans st') r' q', fun C d v H' S' so' st' xd ex => hw C d v σ τ H' S' (R.step ((st1.trans st2).trans st')) so' xd ex⟩⟩
theorem e_methX0 {pl : Sem Bool} (tk : TkX X bb EX) (F : FnMX X.prog X.w X.K X.mg X.base k C m qual st ps asp) (c : Cls X.K C) (gd : X.A.guards = some []) (hr : Room k X.A) (he : PE X o (low (kx X bb) to))
    (ht : eval (.Call (.Attribute o m apos) [] [] pos) X.env = (do
      let ov ← eval o X.env
      standAt apos.atName
      let (f, first) ← holding [ov] (getMethod ov m pl)
      callWith pos f first (backTo pos (starEach [] X.env)) (backToKw pos (keywordEach [] X.env))) := by rfl) :
    PE X (.Call (.Attribute o m apos) [] [] pos) (low (kx X bb) (aMethX C m asp EX to aNil)) := by
  obtain ⟨f, fd, _, G, hm, hb⟩ := F.ex
  obtain ⟨W, tw, hw⟩ := tk.ex
  refine ⟨fun pins s σ H QH I ⟨τ, S, Q, R, so, q, kk⟩ => ?_⟩
  refine PySem.W.methodCall_KW (pl := pl) (thn (he.run pins s σ H (fun v H1 => ∃ a fs S1, StOk X.K H1 S1 ∧ Step H S H1 S1 ∧ v = .ref a ∧ S1 a = some (.ins C fs) ∧ fs.lookup m = none ∧ asp [.ref a] S1 Q (EX τ)) I
    ⟨τ, S, _, R, so, q, fun v H1 d S1 so1 st1 r1 ⟨a, fs, ed, hs, hl, q1⟩ => by subst ed; exact ⟨a, fs, S1, so1, st1, rel_refE r1, hs, hl, q1⟩⟩) fun u s1 z => ?_) ht
  obtain ⟨v, H1, I1, rx, a, fs, S1, so1, st1, ev, hs, hl, q1⟩ := z
  subst ev
  obtain rfl : u = Value.ref a := rx
  obtain ⟨dx, fv, h1, rf⟩ := insE so1 hs
  refine getmeth_ok I1 h1 c hm (rf.none hl) ?_
  exact PySem.W.callWith_K0 (first := [.ref a]) I1.kIn hm.kp (run_gx (us := [.ref a]) (vs := [.ref a]) G gd hr hb (L2N.passAt tw σ) I1 (.cons rfl .nil) ⟨[.ref a], S1, Q, EX τ, .cons (.ref a) .nil, so1, q1, fun d S' v H' so' st' r' q' => kk v H' d S' so' (st1.trans st') r' q', fun C d v H' S' so' st' xd ex => hw C d v σ τ H' S' (R.step (st1.trans st')) so' xd ex⟩)
end

/-! ### try -/
theorem Rp.re {k1 k2 : KB} {H : Hp} {S : Store} {σ : L2.St} {τ : ASt} (r : Rp k1 H S σ τ) (e : k2.K = k1.K) (hb : k2.b.p H S) : Rp k2 H S σ τ := ⟨r.len, fun i d h => by rw [e]; exact r.at_ i d h, hb⟩
/-- try: .. except x as n: .. -/
def aTryAs (K : PySem.W.Frag) (i : Nat) (Hc : Addr) (asb : EXw → AS) (ash : Addr → Addr → AV → AS) : AS := fun D τ S =>
  asb (fun τ' C v S' => PySem.W.exmOne K (.ref C) (.ref Hc) = some true ∧ ∀ a, ash a C v { nx := fun τ2 S2 => D.nx (τ2.set i none) S2, rt := D.rt, bk := fun τ2 S2 => D.bk (τ2.set i none) S2, ct := fun τ2 S2 => D.ct (τ2.set i none) S2 } (τ'.set i (some (.ref a))) S') D τ S
section
variable {X : Cx} {x n : Str} {Hc : Addr} {i : Nat} {body suite : List Stmt} {b₀ : Stmt} {np pos pos' : Pos} {asb : EXw → AS} {ash : Addr → Addr → AV → AS}
theorem s_tryAs (i : Nat) (hc : X.mg x = some (.ref Hc)) (hN : X.N.Nodup) (hb : ∀ (pn : List (Addr × Obj)) (xe : Value → Shared → Prop) (EX : EXw) (b2 : Birth), TkX (X.tr pn xe) b2 EX → PassesOwn (model X.prog X.w) X.A X.env xe → PSs (X.tr pn xe) body (lowS ⟨X.K, b2⟩ (asb EX)))
    (hsu : ∀ (a : Addr) (oe : Obj) (C d : Addr) (v : AV) (pn : List (Addr × Obj)) (Hh : Hp) (Sh : Store), Zc (.ref C) (some d) oe → (∃ vs, oe.data = .fields vs) → XdIs X.K Hh Sh d v → PXN.CtxN oe → PSs (X.suite a ((a, oe) :: pn)) (b₀ :: suite) (lowS ⟨X.K, bornAt Hh Sh⟩ (ash a C v)))
    (hi : X.N[i]? = some n := by rfl) (hln : X.env.kindOf n = some .local := by rfl) (hs : X.stack = X.env :: X.outer := by rfl) (hf : X.env.frame = some X.env.locals := by rfl) (hg : Gl X x := by rfl) (hdb : (x == ("__debug__" : Str)) = false := by decide) :
    PS X (.Try body [.ExceptHandler (some (.Name x np)) (some n) (b₀ :: suite) pos'] [] [] pos) (lowS (kx X bb) (aTryAs X.K i Hc asb ash)) := by
  refine (L2N.ps_try_as (i := i) (c := .ref Hc) (tb := fun W D σ H => ∃ (b2 : Birth) (EX : EXw), (∀ (C d : Addr) (v : AV) (σ : L2.St) (τ : ASt) (H : Hp) (S : Store), Rp ⟨X.K, b2⟩ H S σ τ → StOk X.K H S → XdIs X.K H S d v → EX τ C v S → W (.ref C) (some d) σ H) ∧ lowS ⟨X.K, b2⟩ (asb EX) D σ H)
    (ts := fun a cls d D σ H => ∃ (C dd : Addr) (v : AV) (S : Store) (τ : ASt) (DA : AEnds), cls = .ref C ∧ d = some dd ∧ XdIs X.K H S dd v ∧ Rp ⟨X.K, bornAt H S⟩ H S σ τ ∧ StOk X.K H S ∧ ash a C v DA τ S ∧ EndsOk ⟨X.K, bornAt H S⟩ H S DA D)
    hs hf hN hi hln ⟨hg, hdb, .inl hc⟩ takesN0 (fun W pn xe tw po => ⟨fun pins s σ H D I ⟨b2, EX, ht, q⟩ => (hb pn xe EX b2 ⟨⟨W, tw, ht⟩⟩ po).run pins s σ H D I q⟩) (fun a oe cls d pn hz hd => ⟨fun pins s σ H D I h => ?_⟩)).weak fun DH σ H ⟨τ, S, DA, R, so, q, k⟩ => ?_
  · obtain ⟨C, dd, v, S, τ, DA, e1, e2, xd, R, so, q, ends⟩ := h
    subst e1 e2
    exact (hsu a oe C dd v pn H S hz.zc hd xd hz.2.2).run pins s σ H D I ⟨τ, S, DA, R, so, q, ends⟩
  · refine ⟨bornAt H S, _, fun C d v σ' τ' H' S' R' so' xd ⟨em, hq⟩ => ⟨true, em, fun _ a ha => ?_, fun z => by cases z⟩, τ, S, DA, R.re rfl Step.refl, so, q, ?_⟩
    · exact ⟨fun σ2 H2 τ2 S2 so2 st2 R2 q2 => k.nx _ H2 _ S2 so2 st2 (R2.re rfl (bb.step R.bt st2)) q2, fun v2 H2 d2 S2 so2 st2 => k.rt v2 H2 d2 S2 so2 st2,
        fun σ2 H2 τ2 S2 so2 st2 R2 q2 => k.bk _ H2 _ S2 so2 st2 (R2.re rfl (bb.step R.bt st2)) q2, fun σ2 H2 τ2 S2 so2 st2 R2 q2 => k.ct _ H2 _ S2 so2 st2 (R2.re rfl (bb.step R.bt st2)) q2⟩
    · have st' : Step H S H' S' := R'.bt
      refine ⟨C, d, v, S', _, _, rfl, rfl, xd, (R'.re (k2 := ⟨X.K, bornAt H' S'⟩) rfl Step.refl).set (.ref a) i, so', hq a, ?_⟩
      exact ⟨fun σ2 H2 τ2 S2 so2 st2 R2 q2 => k.nx _ H2 _ S2 so2 (st'.trans st2) ((R2.forget i).re rfl (bb.step R.bt (st'.trans st2))) q2, fun v2 H2 d2 S2 so2 st2 => k.rt v2 H2 d2 S2 so2 (st'.trans st2),
        fun σ2 H2 τ2 S2 so2 st2 R2 q2 => k.bk _ H2 _ S2 so2 (st'.trans st2) ((R2.forget i).re rfl (bb.step R.bt (st'.trans st2))) q2, fun σ2 H2 τ2 S2 so2 st2 R2 q2 => k.ct _ H2 _ S2 so2 (st'.trans st2) ((R2.forget i).re rfl (bb.step R.bt (st'.trans st2))) q2⟩
end
/-- error.value, error the one that the suite holds -/
def aErr (a : Addr) (v : AV) (te : AE) : AE := fun τ S Q => te τ S fun x S1 => x = .ref a ∧ Q v S1
theorem e_err {X : Cx} {a C d : Addr} {v : AV} {oe : Obj} {pn : List (Addr × Obj)} {Hh : Hp} {Sh : Store} {e : Expr} {te : AE} {pos : Pos} (T : XfC X.K C) (hno : PySem.W.findIn X.K (.ref C) "value" = some none) (hz : Zc (.ref C) (some d) oe) (hf : ∃ vs, oe.data = .fields vs) (xd : XdIs X.K Hh Sh d v)
    (he : PE (X.suite a ((a, oe) :: pn)) e (low ⟨X.K, bornAt Hh Sh⟩ te)) (hb : attributeBase e "value" X.env (eval e X.env) = eval e X.env := by rfl) : PE (X.suite a ((a, oe) :: pn)) (.Attribute e "value" pos) (low ⟨X.K, bornAt Hh Sh⟩ (aErr a v te)) :=
  (pe_xf T hno hz hf he hb).weak fun σ H QH ⟨τ, S, Q, R, so, q, k⟩ => ⟨τ, S, _, R, so, q, fun x H1 dx S1 so1 st1 r1 ⟨ex, q1⟩ => by
    subst ex
    obtain ⟨n, y, hy, ry⟩ := xd.step (Step.trans R.bt st1)
    exact ⟨rel_refE r1, rfl, d, _, y, rfl, hy, by simp [List.lookup], k y H1 v S1 so1 st1 ry q1⟩⟩
end L3

set_option Elab.async false
set_option linter.all false
set_option maxRecDepth 100000
set_option maxHeartbeats 2000000
set_option autoImplicit false
/-! L3T: enumerate of a text, of a tuple. -/
namespace L3
open PySem L2 PyProof.Rows
variable {bb : Birth}
namespace XE
set_option maxHeartbeats 1000000 in
theorem meets1 {v : Value} {o : Obj} {Hd : Heap → Prop} (B : Begins v o Hd) : Meets (Builtin.«enumerate.__new__» ⟨[.type "enumerate", v], []⟩) (fun _ R s => Hd s.heap ∧
    R (.ok (.ret (.ref (s.heap.push o).objs.size))) { s with heap := (s.heap.push o).push { cls := .type "enumerate", data := .fields #[.none, .bool false, .ref s.heap.objs.size, rawInt 0, .none, .none] } }) :=
  .of_wp fun prog w A R s h => by
    obtain ⟨hp, g, d, tk, os⟩ := s
    obtain ⟨h1, h⟩ := h
    have sub := sub_enumerate
    have it : ∀ {A' : Around} {E : Value → Shared → Prop} {Q : Value → Shared → Prop}, Q (.ref hp.objs.size) ⟨hp.push o, g, d, tk, os⟩ → wpAny (model prog w) A' (pyIter v) Q E ⟨hp, g, d, tk, os⟩ :=
      fun q => B.iter prog w _ _ ⟨hp, g, d, tk, os⟩ _ h1 q
    wp_walk using it
    refine wpAny_stack_any fun st => wpAny_pure ?_
    split
    · rename_i c _ _ _ _ _
      cases (c == Value.type "enumerate") <;>
        (wp_walk using it
         exact ⟨_, rfl, h⟩)
    · wp_walk using it
      exact ⟨_, rfl, h⟩
theorem call1 {prog : Program} {w : World} {A : Around} {E : Value → Shared → Prop} {s : Shared} {v : Value} {o : Obj} {Hd : Heap → Prop} {Q : Value → Shared → Prop} (B : Begins v o Hd) (h1 : Hd s.heap)
    (h : ∀ h', IsEnum h' (s.heap.objs.size + 1) s.heap.objs.size 0 .none → h'.get? s.heap.objs.size = some o → (∀ b o, s.heap.get? b = some o → h'.get? b = some o) → Q (.ref (s.heap.objs.size + 1)) { s with heap := h' }) :
    wpAny (model prog w) A (call (.type "enumerate") [v]) Q E s := by
  refine callType_new F.called_enumerate (by decide) (F.typeCall_enumerate_1 _) (F.newCall_enumerate_1 _) (fun obj => F.args_object_init_2 obj _) F.entry_enumerate_new (meets1 B) ⟨h1, ?_⟩
  have hz : (s.heap.push o).objs.size = s.heap.objs.size + 1 := Heap.size_push ..
  show _ ∧ _
  rw [hz]
  have he : IsEnum ((s.heap.push o).push { cls := .type "enumerate", data := .fields #[.none, .bool false, .ref s.heap.objs.size, rawInt 0, .none, .none] }) (s.heap.objs.size + 1) s.heap.objs.size 0 .none := by
    have := Heap.get?_push_size (s.heap.push o) (o := { cls := .type "enumerate", data := .fields #[.none, .bool false, .ref s.heap.objs.size, rawInt 0, .none, .none] }) rfl
    rw [hz] at this
    exact this
  exact ⟨⟨_, he, rfl⟩, h _ he (Heap.get?_push_of_some _ (Heap.get?_push_size _ B.free)) fun b o x => Heap.get?_push_of_some _ (Heap.get?_push_of_some _ x)⟩
/-- the signs of a text, each in a new pair with its place -/
def IteS (z : Str) : It := ⟨fun i _ => i < z.cps.size, fun i H v H' => ∃ T c, v = .ref T ∧ H T = none ∧ H' = upd H T (.tup [.int (i : Nat), .str ⟨#[c]⟩]) ∧ z.cps[i]? = some c, fun i _ => z.cps.size ≤ i⟩
theorem turnS {P : Program} {w : World} {K : PySem.W.Frag} {elts : List Expr} {kk : Nat} {tpos : Pos} (z : Str) (t : Tok) (e it : Addr) :
    Turn P w K (.Tuple elts kk tpos) (IteS z) [e, it] e (fun i h => i ≤ z.cps.size ∧ (∃ old, IsEnum h e it ((i : Nat) : Int) old) ∧ h.IsStrIter it (strIterType z) z t i ∧ e ≠ it) where
  mem := by simp
  obj := fun i h st b hb => by
    obtain ⟨_, ⟨old, he⟩, ⟨o, ho, hc, hd⟩, _⟩ := st
    have e' : b = e ∨ b = it := by simpa using hb
    rcases e' with z | z
    · rw [z]; exact ⟨_, he, fun v q => nomatch q⟩
    · rw [z]; exact ⟨o, ho, fun v q => by rw [hd] at q; cases q⟩
  keep := fun i h h' st k => let ⟨hl, ⟨old, he⟩, ⟨o, ho, r⟩, hne⟩ := st; ⟨hl, ⟨old, k e (by simp) _ he⟩, ⟨o, k it (by simp) _ ho, r⟩, hne⟩
  item := by
    intro X hP hw hK hc i pins s σ H E I hf st hg
    subst hP hw hK
    obtain ⟨_, ⟨old, he⟩, hit, hne⟩ := st
    have hg : i < z.cps.size := hg
    have hel : e < s.heap.objs.size := Heap.lt_size he
    have hil : it < s.heap.objs.size := by obtain ⟨_, q, _⟩ := hit; exact Heap.lt_size q
    have hh : X.A.in1.handled = none := I.ok.hd hc
    refine wpAny_pyNext_enum_itemD (Draws.text hh it z t) he hit hg hne (by simp [hne]) fun x h' tk ⟨c, u, hcx, ex⟩ ho hit' hT hsz hk => ?_
    subst ex
    refine ⟨_, rfl, wpAny_letOwnedTupleGo_enum (s := { s with heap := h', toks := tk + 1 }) ho fun h'' he' sb => ?_⟩
    have hT2 : h''.get? s.heap.objs.size = some { cls := .type "tuple", data := .seq #[.int i tk, .str ⟨#[c]⟩ u] } := (sb.2 _ (Nat.ne_of_gt hel)).trans hT
    have new : ObjOk X.prog X.w (upd H s.heap.objs.size (.tup [.int (i : Nat), .str ⟨#[c]⟩])) h'' s.heap.objs.size (.tup [.int (i : Nat), .str ⟨#[c]⟩]) :=
      ⟨by show 2 ≤ sizeLine; decide, [.int i tk, .str ⟨#[c]⟩ u], .cons ⟨_, rfl⟩ (.cons ⟨_, rfl⟩ .nil), ⟨_, hT2, rfl, _, rfl⟩⟩
    have I1 : Inv X pins σ (upd H s.heap.objs.size (.tup [.int (i : Nat), .str ⟨#[c]⟩])) { s with heap := h'', toks := tk + 1 } :=
      I.turnedNew (ch := [e, it]) (fun b ob hb q => (sb.2 b (fun z => hb (by simp [z]))).trans (hk b ob (fun z => hb (by simp [z])) (fun z => hb (by simp [z])) q)) hf (Nat.le_refl _) new
    refine ⟨.ref s.heap.objs.size, _, I1, rfl, ⟨_, c, rfl, I.hok.fresh (Nat.le_refl _), rfl, hcx⟩, ⟨hg, ⟨Value.str ⟨#[c]⟩ u, ?_⟩, ?_, hne⟩, fun b hb => ?_⟩
    · have e1 : ((i + 1 : Nat) : Int) = (i : Int) + 1 := by omega
      rw [e1]
      exact he'
    · obtain ⟨o, q, r⟩ := hit'
      exact ⟨o, (sb.2 it (Ne.symm hne)).trans q, r⟩
    · have hb' : b < s.heap.objs.size := by
        have e' : b = e ∨ b = it := by simpa using hb
        rcases e' with z | z
        · rw [z]; exact hel
        · rw [z]; exact hil
      rw [upd_ne (Nat.ne_of_lt hb')]
      exact (hf b hb).1
  done := by
    intro X hP hw hK hc i pins s σ H E I hf st hg
    subst hP hw hK
    obtain ⟨hl, ⟨old, he⟩, hit, hne⟩ := st
    have hg : z.cps.size ≤ i := hg
    have ei : i = z.cps.size := by omega
    subst ei
    obtain ⟨f0, f1, f2, f3, f4, f5⟩ := hf it (by simp)
    have hh : X.A.in1.handled = none := I.ok.hd hc
    exact wpAny_pyNext_enum_endD (Draws.text hh it z t) he hit fun h' eb => ⟨rfl, I.turned (t' := s.toks) (fun b o hb q => eb b o hb q) f0 f1 f3 f4 f5⟩
  self := fun A i s Q E st h => let ⟨_, ⟨_, he⟩, _⟩ := st; wpAny_pyIter_enum he h
/-- the parts of the tuple at a, n of them -/
def IteT (K : PySem.W.Frag) (a : Addr) (n : Nat) : It := ⟨fun i H => ∃ (xs : List V) (x : V), SqT K H a xs ∧ xs.length = n ∧ xs[i]? = some x, fun i H v H' => ∃ T x, v = .ref T ∧ H T = none ∧ H' = upd H T (.tup [.int (i : Nat), x]) ∧ ∀ xs, SqT K H a xs → xs[i]? = some x, fun i H => ∃ xs : List V, SqT K H a xs ∧ xs.length = n ∧ n ≤ i⟩
theorem turnT {P : Program} {w : World} {K : PySem.W.Frag} {elts : List Expr} {kk : Nat} {tpos : Pos} (a : Addr) (n : Nat) (e it : Addr) :
    Turn P w K (.Tuple elts kk tpos) (IteT K a n) [e, it] e (fun i h => i ≤ n ∧ (∃ old, IsEnum h e it ((i : Nat) : Int) old) ∧ h.IsTupleIter it a i ∧ e ≠ it) where
  mem := by simp
  obj := fun i h st b hb => by
    obtain ⟨_, ⟨old, he⟩, ⟨o, ho, hc, hd⟩, _⟩ := st
    have e' : b = e ∨ b = it := by simpa using hb
    rcases e' with z | z
    · rw [z]; exact ⟨_, he, fun v q => nomatch q⟩
    · rw [z]; exact ⟨o, ho, fun v q => by rw [hd] at q; cases q⟩
  keep := fun i h h' st k => let ⟨hl, ⟨old, he⟩, ⟨o, ho, r⟩, hne⟩ := st; ⟨hl, ⟨old, k e (by simp) _ he⟩, ⟨o, k it (by simp) _ ho, r⟩, hne⟩
  item := by
    intro X hP hw hK hc i pins s σ H E I hf st hg
    subst hP hw hK
    obtain ⟨_, ⟨old, he⟩, hit, hne⟩ := st
    obtain ⟨xs, y, hq, hxn, hy⟩ := hg
    have hlt := (List.getElem?_eq_some_iff.mp hy).1
    obtain ⟨its, rv, p, hz⟩ := I.tuple hq
    have hln := rv.length
    have hel : e < s.heap.objs.size := Heap.lt_size he
    have hil : it < s.heap.objs.size := by obtain ⟨_, q, _⟩ := hit; exact Heap.lt_size q
    have hh : X.A.in1.handled = none := I.ok.hd hc
    have nea : a ≠ it := by
      rintro rfl
      obtain ⟨o1, q1, c1, _⟩ := hit
      obtain ⟨o2, q2, c2, _⟩ := p
      rw [q1] at q2
      cases q2
      exact absurd (Value.type.inj (c1.symm.trans c2)) (by decide)
    have eea : a ≠ e := by
      rintro rfl
      obtain ⟨o2, q2, c2, _⟩ := p
      rw [he] at q2
      cases q2
      exact absurd (Value.type.inj c2) (by decide)
    refine wpAny_pyNext_enum_itemD (Draws.tuple hh it a nea its.toArray) he ⟨hit, p⟩ (by rw [List.size_toArray]; omega) hne (by simp [hne, Ne.symm eea]) fun x h' tk hx ho hit' hT hsz hk => ?_
    have hx' : its[i]? = some x := by simpa using hx
    obtain ⟨u, hu, ru⟩ := rv.get hy
    rw [hu] at hx'
    cases hx'
    refine ⟨_, rfl, wpAny_letOwnedTupleGo_enum (s := { s with heap := h', toks := tk + 1 }) ho fun h'' he' sb => ?_⟩
    have hT2 : h''.get? s.heap.objs.size = some { cls := .type "tuple", data := .seq #[.int i tk, x] } := (sb.2 _ (Nat.ne_of_gt hel)).trans hT
    have new : ObjOk X.prog X.w (upd H s.heap.objs.size (.tup [.int (i : Nat), y])) h'' s.heap.objs.size (.tup [.int (i : Nat), y]) :=
      ⟨by show 2 ≤ sizeLine; decide, [.int i tk, x], .cons ⟨_, rfl⟩ (.cons ru .nil), ⟨_, hT2, rfl, _, rfl⟩⟩
    have I1 : Inv X pins σ (upd H s.heap.objs.size (.tup [.int (i : Nat), y])) { s with heap := h'', toks := tk + 1 } :=
      I.turnedNew (ch := [e, it]) (fun b ob hb q => (sb.2 b (fun z => hb (by simp [z]))).trans (hk b ob (fun z => hb (by simp [z])) (fun z => hb (by simp [z])) q)) hf (Nat.le_refl _) new
    refine ⟨.ref s.heap.objs.size, _, I1, rfl, ⟨_, y, rfl, I.hok.fresh (Nat.le_refl _), rfl, fun zs hzs => by rw [I.tuple_inj hzs hq]; exact hy⟩, ⟨by omega, ⟨x, ?_⟩, ?_, hne⟩, fun b hb => ?_⟩
    · have e1 : ((i + 1 : Nat) : Int) = (i : Int) + 1 := by omega
      rw [e1]
      exact he'
    · obtain ⟨o, q, r⟩ := hit'.1
      exact ⟨o, (sb.2 it (Ne.symm hne)).trans q, r⟩
    · have hb' : b < s.heap.objs.size := by
        have e' : b = e ∨ b = it := by simpa using hb
        rcases e' with z | z
        · rw [z]; exact hel
        · rw [z]; exact hil
      rw [upd_ne (Nat.ne_of_lt hb')]
      exact (hf b hb).1
  done := by
    intro X hP hw hK hc i pins s σ H E I hf st hg
    subst hP hw hK
    obtain ⟨hl, ⟨old, he⟩, hit, hne⟩ := st
    obtain ⟨xs, hq, hxn, hge⟩ := hg
    obtain ⟨its, rv, p, hz⟩ := I.tuple hq
    have hln := rv.length
    have ei : i = its.toArray.size := by rw [List.size_toArray]; omega
    have nea : a ≠ it := by
      rintro rfl
      obtain ⟨o1, q1, c1, _⟩ := hit
      obtain ⟨o2, q2, c2, _⟩ := p
      rw [q1] at q2
      cases q2
      exact absurd (Value.type.inj (c1.symm.trans c2)) (by decide)
    obtain ⟨f0, f1, f2, f3, f4, f5⟩ := hf it (by simp)
    have hh : X.A.in1.handled = none := I.ok.hd hc
    rw [ei] at hit
    exact wpAny_pyNext_enum_endD (Draws.tuple hh it a nea its.toArray) he ⟨hit, p⟩ fun h' eb => ⟨rfl, I.turned (t' := s.toks) (fun b o hb q => eb b o hb q) f0 f1 f3 f4 f5⟩
  self := fun A i s Q E st h => let ⟨_, ⟨_, he⟩, _⟩ := st; wpAny_pyIter_enum he h
section
variable {X : Cx} {e : Expr} {ta : TA} {p pos tpos : Pos} {elts : List Expr} {kk : Nat}
theorem fp2 {pins : List (Addr × Obj)} {σ : L2.St} {H : Hp} {s : Shared} {h' : Heap} (I : Inv X pins σ H s) (hk : ∀ b o, s.heap.get? b = some o → h'.get? b = some o) : ∀ b ∈ [s.heap.objs.size + 1, s.heap.objs.size], FpOk X pins H b := fun b hb => by
  have e' : b = s.heap.objs.size + 1 ∨ b = s.heap.objs.size := by simpa using hb
  have hle : s.heap.objs.size ≤ b := by
    rcases e' with z | z
    · rw [z]; exact Nat.le_add_right _ _
    · rw [z]; exact Nat.le_refl _
  exact I.fpOk hle (I.hok.fresh hle)
theorem piS (hg : Gl X "enumerate") (hm : X.mg "enumerate" = none) (ha : PA X [e] ta) (hs : starEach [e] X.env = [(false, eval e X.env)] := by rfl) :
    PI X (.Tuple elts kk tpos) (.Call (.Name "enumerate" p) [e] [] pos) (fun σ H R => ta σ H fun vs H1 => ∃ z, vs = [.str z] ∧ R (IteS z) H1) := by
  refine ⟨fun pins s σ H R I h => ?_⟩
  refine Call_ (ld_blt I hg hm boot_enumerate (PyProof.Rows.callWith_type1 (thn (ha.run pos pins s σ H _ I h) fun us s1 ⟨vs, H1, I1, r1, q1⟩ => ?_) hs rfl))
  obtain ⟨z, ex, q⟩ := q1
  subst ex
  cases r1 with
  | cons r rr =>
    cases rr
    obtain ⟨t, rfl⟩ := r
    refine call1 (begins_text z t) trivial fun h' he hit hk => wpAny_pyIter_enum he ?_
    have I2 : Inv X pins σ H1 { s1 with heap := h' } := I1.kept (t' := s1.toks) hk
    exact ⟨s1.heap.objs.size + 1, [s1.heap.objs.size + 1, s1.heap.objs.size], _, _, H1, rfl, I2, turnS z t (s1.heap.objs.size + 1) s1.heap.objs.size, ⟨Nat.zero_le _, ⟨.none, he⟩, ⟨_, hit, rfl, rfl⟩, Nat.succ_ne_self _⟩, fp2 I1 hk, q⟩
theorem piT (hg : Gl X "enumerate") (hm : X.mg "enumerate" = none) (ha : PA X [e] ta) (hs : starEach [e] X.env = [(false, eval e X.env)] := by rfl) :
    PI X (.Tuple elts kk tpos) (.Call (.Name "enumerate" p) [e] [] pos) (fun σ H R => ta σ H fun vs H1 => ∃ a xs, vs = [.ref a] ∧ SqT X.K H1 a xs ∧ R (IteT X.K a xs.length) H1) := by
  refine ⟨fun pins s σ H R I h => ?_⟩
  refine Call_ (ld_blt I hg hm boot_enumerate (PyProof.Rows.callWith_type1 (thn (ha.run pos pins s σ H _ I h) fun us s1 ⟨vs, H1, I1, r1, q1⟩ => ?_) hs rfl))
  obtain ⟨a, xs, ex, hq, q⟩ := q1
  subst ex
  cases r1 with
  | cons r rr =>
    cases rr
    cases r
    obtain ⟨its, rv, p', hz⟩ := I1.tuple hq
    refine call1 (begins_tuple a its.toArray) p' fun h' he hit hk => wpAny_pyIter_enum he ?_
    have I2 : Inv X pins σ H1 { s1 with heap := h' } := I1.kept (t' := s1.toks) hk
    exact ⟨s1.heap.objs.size + 1, [s1.heap.objs.size + 1, s1.heap.objs.size], _, _, H1, rfl, I2, turnT a xs.length (s1.heap.objs.size + 1) s1.heap.objs.size, ⟨Nat.zero_le _, ⟨.none, he⟩, ⟨_, hit, rfl, rfl⟩, Nat.succ_ne_self _⟩, fp2 I1 hk, q⟩
end
end XE
/-- enumerate(text), enumerate(tuple) -/
def aiEnumS (t : AA) : AI := fun τ S Q => t τ S fun ds S1 => ∃ z, ds = [.str z] ∧ Q (enumA (signsA z)) (fun _ => True) S1
def aiEnumT (t : AA) : AI := fun τ S Q => t τ S fun ds S1 => ∃ xs, ds = [.tup xs] ∧ Q (enumA xs) (fun _ => True) S1
section
variable {X : Cx} {e : Expr} {t : AA} {elts : List Expr} {kk : Nat} {tpos p pos : Pos}
theorem i_enumS (hm : X.mg "enumerate" = none) (ha : PA X [e] (lowA (kx X bb) t)) (hg : Gl X "enumerate" := by rfl) (hs : starEach [e] X.env = [(false, eval e X.env)] := by rfl) :
    PI X (.Tuple elts kk tpos) (.Call (.Name "enumerate" p) [e] [] pos) (lowI (kx X bb) (aiEnumS t)) := (XE.piS hg hm ha hs).weak fun σ H R ⟨τ, S, Q, Rr, so, q, k⟩ => ⟨τ, S, _, Rr, so, q, fun vs H1 ds S1 so1 st1 r1 ⟨z, e, q1⟩ => by
    subst e
    obtain ⟨v, rfl, r⟩ := rel_one r1
    obtain rfl := rel_strE r
    have hlen : (signsA z).length = z.cps.size := by unfold signsA; rw [List.length_map, Array.length_toList]
    refine ⟨z, rfl, k _ H1 _ _ S1 so1 st1 (fun H' S' so' st' g => ⟨fun i x hx => ?_, ?_⟩) q1⟩
    · obtain ⟨y, hy, rfl⟩ := enumA_get hx
      have hi : i < z.cps.size := by have := (List.getElem?_eq_some_iff.mp hy).1; omega
      refine ⟨hi, fun v H'' hv => ?_⟩
      obtain ⟨T, c, rfl, hT, rfl, hc⟩ := hv
      have e2 : y = .str ⟨#[c]⟩ := by
        unfold signsA at hy
        rw [List.getElem?_map, Array.getElem?_toList, hc] at hy
        cases hy
        rfl
      subst e2
      exact ⟨stok_new so' hT, step_new so' hT, rel_tup so' hT (.cons (.int _) (.cons (.str _) .nil))⟩
    · rw [enumA_len, hlen]
      exact Nat.le_refl _⟩
theorem i_enumT (hm : X.mg "enumerate" = none) (ha : PA X [e] (lowA (kx X bb) t)) (hg : Gl X "enumerate" := by rfl) (hs : starEach [e] X.env = [(false, eval e X.env)] := by rfl) :
    PI X (.Tuple elts kk tpos) (.Call (.Name "enumerate" p) [e] [] pos) (lowI (kx X bb) (aiEnumT t)) := (XE.piT hg hm ha hs).weak fun σ H R ⟨τ, S, Q, Rr, so, q, k⟩ => ⟨τ, S, _, Rr, so, q, fun vs H1 ds S1 so1 st1 r1 ⟨xs, e, q1⟩ => by
    subst e
    obtain ⟨v, rfl, r⟩ := rel_one r1
    obtain ⟨a, ws, rfl, hl, rs⟩ := rel_tupE r
    have hn := rs.length
    refine ⟨a, ws, rfl, hl, k _ H1 _ _ S1 so1 st1 (fun H' S' so' st' g => ?_) q1⟩
    obtain ⟨a', us, ea, hl', rs'⟩ := rel_tupE (r.step st')
    cases ea
    have hn' := rs'.length
    refine ⟨fun i x hx => ?_, us, hl', by omega, by rw [enumA_len]; omega⟩
    obtain ⟨y, hy, rfl⟩ := enumA_get hx
    obtain ⟨u, hu, ru⟩ := rs'.get hy
    refine ⟨⟨us, u, hl', by omega, hu⟩, fun v H'' hv => ?_⟩
    obtain ⟨T, x1, rfl, hT, rfl, e2⟩ := hv
    have e3 := e2 us hl'
    rw [hu] at e3
    cases e3
    exact ⟨stok_new so' hT, step_new so' hT, rel_tup so' hT (.cons (.int _) (.cons ru .nil))⟩⟩
end
end L3

set_option Elab.async false
set_option linter.all false
set_option maxRecDepth 100000
set_option maxHeartbeats 4000000
set_option autoImplicit false
/-! L3V: isinstance of a caught exception that has its own dict. -/
namespace L3
open PySem PySem.Spec PySem.Calls PySem.W PyProof.Rows
namespace XK
section
variable {prog : Program} {w : World} {A : Around} {E : Value → Shared → Prop} {s : Shared} {K : Frag} {x D : Addr} {ox : Obj} {od : Option Obj}
theorem findObj_dataX {C : Addr} {name : Str} {a g : Value} (hc : (clsIn K C).isSome = true) (ha : findIn K (.ref C) name = some (some a)) (hg : specialIn K a "__get__" = some (some g)) (ht : takesIn K a = some true) : findObj K C od name = some (.bind g a) := by
  obtain ⟨cd, hc⟩ := Option.isSome_iff_exists.mp hc
  unfold findObj
  rw [hc, Option.bind_some, ha, Option.bind_some]
  simp [hg, ht]
theorem kin_classX {Q : Option Value → Shared → Prop} (hga : findIn K (.ref D) "__getattribute__" = some (some (.builtin "BaseException.__getattribute__"))) (hgt : findIn K (.ref D) "__getattr__" = some none) (hsub : subIn K (.ref D) (.type "BaseException") = some true)
    (hdct : hasDictIn K D = true) (ha : findIn K (.ref D) "__class__" = some (some (.builtin "object.__class__")))
    (hn : specialIn K (.builtin "object.__class__") "__get__" = some (some (.builtin "getset_descriptor.__get__"))) (htk : takesIn K (.builtin "object.__class__") = some true) (hm : mroIn K D (.type "object") = some true)
    (X : K.In s.heap) (I : InstAt s.heap x ox D od) (h : Q (some (.ref D)) { s with toks := s.toks + 1 }) : wpAny (model prog w) A (getAttr? (.ref x) "__class__") Q E s := by
  have hf : findObj K D od "__class__" = some (.bind (.builtin "getset_descriptor.__get__") (.builtin "object.__class__")) := findObj_dataX (by obtain ⟨cd, hc, _⟩ := any_some hdct; rw [hc]; rfl) ha hn htk
  obtain ⟨hp, g, d, t, os⟩ := s
  have L0 := I.type (M := model prog w)
  have L1 := looks_findIn (M := model prog w) X hga
  have L2 := looks_findIn (M := model prog w) X hgt
  have L3 := looks_find (M := model prog w) X I hf
  have sub : Looks (model prog w) hp (isInstance (.ref x) (.type "BaseException")) true := L0.andThen (looks_subIn X hsub)
  have hx0 : (false && onTheHeap (Value.builtin "BaseException.__getattribute__")) = false := rfl
  have hx2 : (Value.builtin "BaseException.__getattribute__" == Value.builtin "object.__getattribute__") = false := by decide +kernel
  have hx1 : (onTheHeap (Value.ref D) && Value.builtin "BaseException.__getattribute__" == Value.builtin "object.__getattribute__") = false := by rw [hx2]; rfl
  unfold getAttr? getAttrBy? getAttrBy
  refine wpAny_bind (wpAny_mkText (wpAny_bind (wpAny_attempt (wpAny_holding (wpAny_bind (L0.at (wpAny_bind (L1.at ?_))))))))
  show wpAny _ _ (if (onTheHeap (Value.ref D) && Value.builtin "BaseException.__getattribute__" == Value.builtin "object.__getattribute__") = true then _ else _) _ _ _
  rw [hx1, if_neg Bool.false_ne_true]
  unfold getAttrByItsOwn hookBefore
  refine wpAny_bind ?_
  rw [if_pos (show onTheHeap (Value.ref D) = true from rfl)]
  refine L2.at ?_
  refine wpAny_bind (wpAny_attempt (wpAny_holding ?_))
  unfold callGetattribute
  rw [hx0, if_neg Bool.false_ne_true]
  unfold boundAndCalled
  rw [PySem.F.excAttr_ValueError.ga.bind (.ref x)]
  refine wpAny_bind (wpAny_pure ?_)
  show wpAny _ _ (call (.builtin "BaseException.__getattribute__") [.ref x, .str "__class__" t]) _ _ _
  refine wpAny_call (codeAny_call_builtin PySem.F.excAttr_ValueError.ga.plain PySem.F.entry_bexc_ga ?_)
  refine @check_slot (model prog w) _ _ ⟨hp, g, d, t + 1, os⟩ "BaseException.__getattribute__" "BaseException" "__getattribute__" (.ref x) [.str "__class__" t] [] _ (by decide +kernel) (by decide +kernel) sub (PySem.F.args_bexc_ga (.ref x) (.str "__class__" t)) ?_
  unfold Builtin.«object.__getattribute__»
  refine wpAny_bind (wpAny_of_eq (a := ((Value.ref x : Value), [Value.str "__class__" t])) (by first | rfl | (simp only [slotArgs]; rfl)) ?_)
  refine wpAny_bind (wpAny_pure (wpAny_bind (L0.at (wpAny_bind (L3.at ?_)))))
  show wpAny _ _ (holding [Value.builtin "object.__class__"] (call (.builtin "getset_descriptor.__get__") [.builtin "object.__class__", .ref x, .ref D]) >>= ret) _ _ _
  refine wpAny_bind (wpAny_holding (wpAny_call (class_get (s := ⟨hp, g, d, t + 1, os⟩) (ox := ox) (od := od) X I hm ?_)))
  refine wpAny_pure ?_
  show wpAny _ _ (handedOut (.ref D)) _ _ _
  rw [handedOut_of (v := .ref D) rfl]
  first
    | exact wpAny_pure (wpAny_pure h)
    | exact wpAny_pure h
    | exact wpAny_pure (wpAny_bind (wpAny_pure (wpAny_pure h)))
theorem kitx_exc (hga : findIn K (.ref D) "__getattribute__" = some (some (.builtin "BaseException.__getattribute__"))) (hgt : findIn K (.ref D) "__getattr__" = some none) (hsub : subIn K (.ref D) (.type "BaseException") = some true) (hdct : hasDictIn K D = true) (ha : findIn K (.ref D) "__class__" = some (some (.builtin "object.__class__")))
    (hn : specialIn K (.builtin "object.__class__") "__get__" = some (some (.builtin "getset_descriptor.__get__"))) (htk : takesIn K (.builtin "object.__class__") = some true) (hm : mroIn K D (.type "object") = some true) :
    KitX K (.ref x) (.ref D) (fun h => InstAt h x ox D od) where
  ty := fun _ _ _ I => I.type
  it := fun _ _ X _ => by
    obtain ⟨cdD, hcD, _⟩ := any_some hdct
    unfold clsIn at hcD
    split at hcD
    · rename_i c' d' cd' sl' ho
      intro A' Q' E' s' k q
      unfold isType loadHead
      exact wpAny_bind (wpAny_loadPart (k _ _ (X _ _ ho)) (wpAny_pure q))
    · cases hcD
  ne := fun h tp dd its n sl X htp => by
    obtain ⟨cdD, hcD, _⟩ := any_some hdct
    refine Bool.eq_false_iff.mpr fun q => ?_
    have e : D = tp := Value.ref.inj (beq_iff_eq.mp q)
    subst e
    unfold clsIn at hcD
    split at hcD
    · rename_i c' d' cd' sl' ho
      have z := (X _ _ ho).symm.trans htp
      cases z
    · cases hcD
  ca := fun X I k => kin_classX hga hgt hsub hdct ha hn htk hm X I k
end
end XK
end L3
namespace L3
open PySem L2 PyProof.Rows
variable {bb : Birth}
/-- isinstance(e, c), e the exception that the suite holds, with its dict dd -/
def rIsX (K : PySem.W.Frag) (D a dd : Addr) : List V → Hp → VK → Prop := fun xs H Q => ∃ (c : V) (cv : Value) (b : Bool) (fs : List (Str × V)), xs = [.ref a, c] ∧ (∀ u, RelV c u → u = cv) ∧ PySem.W.kitOne K (.ref D) cv = some b ∧ H dd = some (.xd fs) ∧ Q (.bl b) H
theorem call_isX {X : Cx} {a D dd : Addr} {oe : Obj} {pn : List (Addr × Obj)} (C : ExcC X.K D) (hz : Zc (.ref D) (some dd) oe) (hf : ∃ vs, oe.data = .fields vs) : CallR (X.suite a ((a, oe) :: pn)) (.builtin "isinstance") (rIsX X.K D a dd) := by
  intro pins s σ H xs us Q I r h
  obtain ⟨c, cv, b, fs, rfl, hcv, e, hd, q⟩ := h
  cases r with
  | cons rx rr =>
    cases rr with
    | cons rt rr =>
      cases rr
      cases rx
      have ec := hcv _ rt
      subst ec
      obtain ⟨hget, _⟩ := I.pin (a, oe) (List.mem_append.mpr (.inl List.mem_cons_self))
      obtain ⟨vs, hv⟩ := hf
      have hx : ObjOk X.prog X.w H s.heap dd (.xd fs) := I.hok dd _ hd
      obtain ⟨mA, hns, hr⟩ := hx
      obtain ⟨od, ho, hl⟩ := lookIn_ns hns
      have J : PySem.W.InstAt s.heap a oe D (some od) := ⟨hget, hz.1, by unfold PySem.W.notCls; rw [hv] <;> rfl, by rw [hz.2]; exact ho⟩
      exact PySem.W.kia_one (XK.kitx_exc C.hg C.hk C.hs C.hd C.ha C.hn C.ht C.hm) I.kIn J e (fun z => nomatch z) fun tk => ⟨.bl b, H, I.kept (t' := tk) fun _ _ z => z, rfl, q⟩
/-- an own class's name -/
theorem e_gC {X : Cx} {x : Str} {C : Addr} {pos : Pos} (hm : X.mg x = some (.ref C)) (hg : Gl X x := by rfl) (hdb : (x == ("__debug__" : Str)) = false := by decide) : PE X (.Name x pos) (low (kx X bb) (aC (.ref C))) := low_c (pe_glob (v := .ref C) hg hm rfl hdb) fun _ _ _ => .ref _
/-- isinstance(e, C) -/
def aIsE (K : PySem.W.Frag) (a C : Addr) (t : AA) : AE := fun τ S Q => t τ S fun ds S1 => ∃ c b, ds = [.ref a, .ref c] ∧ PySem.W.kitOne K (.ref C) (.ref c) = some b ∧ Q (.bl b) S1
theorem e_isE {X : Cx} {a C d : Addr} {v : AV} {oe : Obj} {pn : List (Addr × Obj)} {Hh : Hp} {Sh : Store} {e : Expr} {es : List Expr} {t : AA} {p pos : Pos} (E : ExcC X.K C) (hz : Zc (.ref C) (some d) oe) (hf : ∃ vs, oe.data = .fields vs) (xd : XdIs X.K Hh Sh d v)
    (hm : X.mg "isinstance" = none) (ha : PA (X.suite a ((a, oe) :: pn)) (e :: es) (lowA ⟨X.K, bornAt Hh Sh⟩ t)) (hg : Gl X "isinstance" := by rfl) (he : starEach (e :: es) X.env = (false, eval e X.env) :: starEach es X.env := by rfl) (hpl : (backTo pos (starEach es X.env)).any (·.1) = false := by rfl) :
    PE (X.suite a ((a, oe) :: pn)) (.Call (.Name "isinstance" p) (e :: es) [] pos) (low ⟨X.K, bornAt Hh Sh⟩ (aIsE X.K a C t)) :=
  (pe_callB (call_isX E hz hf) hg hm (by decide +kernel) ha (by decide) (by decide) he hpl).weak fun σ H QH ⟨τ, S, Q, R, so, q, k⟩ => ⟨τ, S, _, R, so, q, fun vs H1 ds S1 so1 st1 r1 ⟨c, b, ed, hk, q1⟩ => by
    subst ed
    obtain ⟨n, y, hy, ry⟩ := xd.step (Step.trans R.bt st1)
    cases r1 with
    | cons rx rr =>
      cases rr with
      | cons rt rr =>
        cases rr
        obtain rfl := rel_refE rx
        obtain rfl := rel_refE rt
        exact ⟨_, .ref c, b, _, rfl, fun u h => h, hk, hy, k _ H1 _ S1 so1 st1 (.bl b) q1⟩⟩
theorem kit_same {K : PySem.W.Frag} {C : Addr} : PySem.W.kitOne K (.ref C) (.ref C) = some true := by
  unfold PySem.W.kitOne
  rw [if_pos (by simp)]
end L3

set_option Elab.async false
set_option linter.all false
set_option maxRecDepth 100000
set_option maxHeartbeats 2000000
set_option autoImplicit false
/-! L3U: what a text says of its exceptions; an empty dict; try with error.value. -/
namespace L3
open PySem L2 PyProof.Rows
variable {bb : Birth}
section
open PySem.W
variable {K : Frag} {mg : Str → Option Value} {C D f cc cda : Addr}
theorem HInit.of {P : Program} {w : World} {st : Stmt} {oc kV doc pm ct ccl cl : Value} {od an cdd cld : Option Addr} {osl ccs csl : Array (Option Value)} {vs : Array Value} {file : Str} {tf : Tok} {qual : Str} {p0 p1 p2 p3 p4 p5 p6 p7 p8 p9 : Pos} {ar : Arg}
    {nm q : Str} {N : Addr} {bs bm : List Value} {sn : List Str} {sub : List Value} {ab : Bool} {col : Option Bool} {dd : Option Addr} {k0 k1 k2 k3 k5 : Option Value}
    (ho : K.lookup f = some ⟨oc, od, .func (fnX "__init__" qual (defArgs st) (defBody st) (defScope st) [("__class__", cc)] .none kV doc pm an (.ref cda) ct), osl⟩) (hcd : codeIn K (.ref cda) qual = true)
    (hcode : K.lookup cda = some ⟨ccl, cdd, .fields vs, ccs⟩) (hvs : vs[2]? = some (.str file tf)) (hcell : K.lookup cc = some ⟨cl, cld, .cell (some (.ref D)), csl⟩)
    (hDl : K.lookup D = some (excClassObj nm q D N bs bm true sn sub ab col dd k0 k1 k2 k3 k5 "ValueError.__new__"))
    (hno : nsIn K cStatics "thirdparty.any" = some none) (hsup : mg "super" = none) (ty : typeIn K (.ref f) = some (.type "function"))
    (hfile : ((P.main.file : Str) == file) = true) (htop : (P.main.scope.names.lookup ("super" : Str)).isSome = false)
    (hb : defBody st = XI.initBody p0 p1 p2 p3 p4 p5 p6 p7 p8 p9)
    (hp : ((defArgs st).posonlyargs ++ (defArgs st).args).head? = some ar) (har : ar.arg = "self")
    (hbind : ∀ (kV doc pm : Value) (an : Option Addr) (cdv ct : Value) (cl : List (Str × Addr)) (us : List Value), us.length = 2 → bindArgs (fnX "__init__" qual (defArgs st) (defBody st) (defScope st) cl .none kV doc pm an cdv ct) ⟨us, []⟩ = pure ((["self", "value"] : List Str).zip us))
    (hks : (defScope st).names.lookup ("super" : Str) = some .globalImplicit) (hkc : (defScope st).names.lookup ("__class__" : Str) = some .free) (hka : (defScope st).names.lookup ("self" : Str) = some .local) (hkv : (defScope st).names.lookup ("value" : Str) = some .local)
    (hkind : (defScope st).kind = .function) (hcells : ∀ x ∈ (defScope st).names, x.2 ≠ .cell) (hco : (defScope st).isCoroutine = false) (hgen : (defScope st).isGenerator = false)
    (i1 : ∀ L, interactive (envX qual (defScope st) L f (.ref cda) [("__class__", cc)]) = false) (i2 : ∀ L, swapsWith (.Call (.Attribute (.Call (.Name "super" p0) [] [] p1) "__init__" p2) [.Name "value" p3] [] p4) none p5.line (envX qual (defScope st) L f (.ref cda) [("__class__", cc)]) = pure false)
    (i3 : ∀ L, ∃ pl : Sem Bool, eval (.Call (.Attribute (.Call (.Name "super" p0) [] [] p1) "__init__" p2) [.Name "value" p3] [] p4) (envX qual (defScope st) L f (.ref cda) [("__class__", cc)]) = (do
      let ov ← attributeBase (.Call (.Name "super" p0) [] [] p1) "__init__" (envX qual (defScope st) L f (.ref cda) [("__class__", cc)]) (eval (.Call (.Name "super" p0) [] [] p1) (envX qual (defScope st) L f (.ref cda) [("__class__", cc)]))
      standAt p2.atName
      let (f', first) ← holding [ov] (getMethod ov "__init__" pl)
      callWith p4 f' first (backTo p4 (starEach [.Name "value" p3] (envX qual (defScope st) L f (.ref cda) [("__class__", cc)]))) []))
    (i4 : ∀ L, swapsWith (.Name "value" p8) (some (.Attribute (.Name "self" p6) "value" p7)) p9.line (envX qual (defScope st) L f (.ref cda) [("__class__", cc)]) = pure false) : HInit P w K mg D f := by
  have hD : clsIn K D = some { name := nm, bases := bs, mro := .ref D :: bm, ns := N, qualname := q, hasDict := true, slotNames := sn, subclasses := sub, abstract := ab, collection := col, hasDel := false } := by
    unfold clsIn
    rw [hDl] <;> rfl
  rw [hb] at ho hbind
  refine ⟨fun T X G B NL hr hx hKx hq => ?_, ty⟩
  exact XI.beginV T X G B NL hr ho hcd hp har (.of_eq (hbind _ _ _ _ _ _ _ _ rfl)) hcode hvs hfile hcell hD hno hsup htop hks hkc hka hkv hkind hcells hco hgen hx hKx i1 i2 i3 i4 hq
theorem Exn.of {P : Program} {w : World} {nm q : Str} {N : Addr} {bs bm : List Value} {sn : List Str} {sub : List Value} {ab : Bool} {col : Option Bool} {dd : Option Addr} {k0 k1 k2 k3 k5 : Option Value}
    (xL : K.lookup C = some (excClassObj nm q C N bs bm true sn sub ab col dd k0 k1 k2 k3 k5 "ValueError.__new__")) (ini : findIn K (.ref C) "__init__" = some (some (.ref f))) (sa : findIn K (.ref C) "__setattr__" = some (some (.builtin "object.__setattr__"))) (no : findIn K (.ref C) "value" = some none)
    (kp : keepIn K (.ref C) = true) (sb : subIn K (.ref C) (.type "BaseException") = some true) (ty : typeIn K (.ref C) = some (.type "type"))
    (ga : findIn K (.ref C) "__getattribute__" = some (some (.builtin "BaseException.__getattribute__"))) (gg : findIn K (.ref C) "__getattr__" = some none) (hd : hasDictIn K C = true)
    (hbm : PySem.HandSPX.refsVE bm = true) (hdr : ((Value.ref C :: bm).dropWhile (· != .ref D)).drop 1 = PySem.HandSPX.veTail) (hct : (Value.ref C :: bm).contains (.ref D) = true) : Exn P w K mg D f C :=
  ⟨⟨⟨_, _, _, _, _, _, _, _, _, _, _, _, _, _, _, xL, hbm, hdr, hct⟩, sa, no⟩, ini, kp, sb, ty, ⟨ga, gg, sb, hd⟩⟩
theorem exm_sub {S : Addr} (h1 : subIn K (.ref S) (.type "BaseException") = some true) (h2 : isClsIn K S = true) (h3 : typeIn K (.ref S) = some (.type "type")) (h4 : subIn K (.ref C) (.ref S) = some true) : exmOne K (.ref C) (.ref S) = some true := by
  have e1 : (PySem.W.subIn K (.ref S) (.type "BaseException") == some true) = true := by rw [h1] <;> rfl
  have e2 : ((PySem.W.clsIn K S).isSome && PySem.W.typeIn K (.ref S) == some (.type "type")) = true := by
    have h2' : (PySem.W.clsIn K S).isSome = true := h2
    rw [h2', h3] <;> rfl
  show (if (PySem.W.subIn K (.ref S) (.type "BaseException") == some true) = true then (if ((PySem.W.clsIn K S).isSome && PySem.W.typeIn K (.ref S) == some (.type "type")) = true then PySem.W.subIn K (.ref C) (.ref S) else none) else none) = some true
  rw [if_pos e1, if_pos e2]
  exact h4
end
/-- an exception's class whose instances keep a value -/
def XfV (K : PySem.W.Frag) (C : Addr) : Prop := XfC K C ∧ PySem.W.findIn K (.ref C) "value" = some none ∧ ExcC K C
theorem Exn.xv {P : Program} {w : World} {K : PySem.W.Frag} {mg : Str → Option Value} {D f C : Addr} (T : Exn P w K mg D f C) (E : ExcC K C) : XfV K C := ⟨T.xf, T.kind.no, E⟩
/-- try: .. except x as n: .., n.value read -/
def aTryV (K : PySem.W.Frag) (i : Nat) (Hc : Addr) (asb : EXw → AS) (ash : Addr → Addr → AV → AS) : AS := fun D τ S =>
  asb (fun τ' C v S' => PySem.W.exmOne K (.ref C) (.ref Hc) = some true ∧ XfV K C ∧ ∀ a, ash a C v { nx := fun τ2 S2 => D.nx (τ2.set i none) S2, rt := D.rt, bk := fun τ2 S2 => D.bk (τ2.set i none) S2, ct := fun τ2 S2 => D.ct (τ2.set i none) S2 } (τ'.set i (some (.ref a))) S') D τ S
section
variable {X : Cx} {x n : Str} {Hc : Addr} {i : Nat} {body suite : List Stmt} {b₀ : Stmt} {np pos pos' : Pos} {asb : EXw → AS} {ash : Addr → Addr → AV → AS}
theorem s_tryV (i : Nat) (hc : X.mg x = some (.ref Hc)) (hN : X.N.Nodup) (hb : ∀ (pn : List (Addr × Obj)) (xe : Value → Shared → Prop) (EX : EXw) (b2 : Birth), TkX (X.tr pn xe) b2 EX → PassesOwn (model X.prog X.w) X.A X.env xe → PSs (X.tr pn xe) body (lowS ⟨X.K, b2⟩ (asb EX)))
    (hsu : ∀ (a : Addr) (oe : Obj) (C d : Addr) (v : AV) (pn : List (Addr × Obj)) (Hh : Hp) (Sh : Store), Zc (.ref C) (some d) oe → (∃ vs, oe.data = .fields vs) → XdIs X.K Hh Sh d v → XfV X.K C → PXN.CtxN oe → PSs (X.suite a ((a, oe) :: pn)) (b₀ :: suite) (lowS ⟨X.K, bornAt Hh Sh⟩ (ash a C v)))
    (hi : X.N[i]? = some n := by rfl) (hln : X.env.kindOf n = some .local := by rfl) (hs : X.stack = X.env :: X.outer := by rfl) (hf : X.env.frame = some X.env.locals := by rfl) (hg : Gl X x := by rfl) (hdb : (x == ("__debug__" : Str)) = false := by decide) :
    PS X (.Try body [.ExceptHandler (some (.Name x np)) (some n) (b₀ :: suite) pos'] [] [] pos) (lowS (kx X bb) (aTryV X.K i Hc asb ash)) := by
  refine (L2N.ps_try_as (i := i) (c := .ref Hc) (tb := fun W D σ H => ∃ (b2 : Birth) (EX : EXw), (∀ (C d : Addr) (v : AV) (σ : L2.St) (τ : ASt) (H : Hp) (S : Store), Rp ⟨X.K, b2⟩ H S σ τ → StOk X.K H S → XdIs X.K H S d v → EX τ C v S → W (.ref C) (some d) σ H) ∧ lowS ⟨X.K, b2⟩ (asb EX) D σ H)
    (ts := fun a cls d D σ H => ∃ (C dd : Addr) (v : AV) (S : Store) (τ : ASt) (DA : AEnds), cls = .ref C ∧ d = some dd ∧ XdIs X.K H S dd v ∧ XfV X.K C ∧ Rp ⟨X.K, bornAt H S⟩ H S σ τ ∧ StOk X.K H S ∧ ash a C v DA τ S ∧ EndsOk ⟨X.K, bornAt H S⟩ H S DA D)
    hs hf hN hi hln ⟨hg, hdb, .inl hc⟩ takesN0 (fun W pn xe tw po => ⟨fun pins s σ H D I ⟨b2, EX, ht, q⟩ => (hb pn xe EX b2 ⟨⟨W, tw, ht⟩⟩ po).run pins s σ H D I q⟩) (fun a oe cls d pn hz hd => ⟨fun pins s σ H D I h => ?_⟩)).weak fun DH σ H ⟨τ, S, DA, R, so, q, k⟩ => ?_
  · obtain ⟨C, dd, v, S, τ, DA, e1, e2, xd, xv, R, so, q, ends⟩ := h
    subst e1 e2
    exact (hsu a oe C dd v pn H S hz.zc hd xd xv hz.2.2).run pins s σ H D I ⟨τ, S, DA, R, so, q, ends⟩
  · refine ⟨bornAt H S, _, fun C d v σ' τ' H' S' R' so' xd ⟨em, xv, hq⟩ => ⟨true, em, fun _ a ha => ?_, fun z => by cases z⟩, τ, S, DA, R.re rfl Step.refl, so, q, ?_⟩
    · exact ⟨fun σ2 H2 τ2 S2 so2 st2 R2 q2 => k.nx _ H2 _ S2 so2 st2 (R2.re rfl (bb.step R.bt st2)) q2, fun v2 H2 d2 S2 so2 st2 => k.rt v2 H2 d2 S2 so2 st2,
        fun σ2 H2 τ2 S2 so2 st2 R2 q2 => k.bk _ H2 _ S2 so2 st2 (R2.re rfl (bb.step R.bt st2)) q2, fun σ2 H2 τ2 S2 so2 st2 R2 q2 => k.ct _ H2 _ S2 so2 st2 (R2.re rfl (bb.step R.bt st2)) q2⟩
    · have st' : Step H S H' S' := R'.bt
      refine ⟨C, d, v, S', _, _, rfl, rfl, xd, xv, (R'.re (k2 := ⟨X.K, bornAt H' S'⟩) rfl Step.refl).set (.ref a) i, so', hq a, ?_⟩
      exact ⟨fun σ2 H2 τ2 S2 so2 st2 R2 q2 => k.nx _ H2 _ S2 so2 (st'.trans st2) ((R2.forget i).re rfl (bb.step R.bt (st'.trans st2))) q2, fun v2 H2 d2 S2 so2 st2 => k.rt v2 H2 d2 S2 so2 (st'.trans st2),
        fun σ2 H2 τ2 S2 so2 st2 R2 q2 => k.bk _ H2 _ S2 so2 (st'.trans st2) ((R2.forget i).re rfl (bb.step R.bt (st'.trans st2))) q2, fun σ2 H2 τ2 S2 so2 st2 R2 q2 => k.ct _ H2 _ S2 so2 (st'.trans st2) ((R2.forget i).re rfl (bb.step R.bt (st'.trans st2))) q2⟩
end
theorem e_errV {X : Cx} {a C d : Addr} {v : AV} {oe : Obj} {pn : List (Addr × Obj)} {Hh : Hp} {Sh : Store} {e : Expr} {te : AE} {pos : Pos} (hz : Zc (.ref C) (some d) oe) (hf : ∃ vs, oe.data = .fields vs) (xd : XdIs X.K Hh Sh d v) (xv : XfV X.K C)
    (he : PE (X.suite a ((a, oe) :: pn)) e (low ⟨X.K, bornAt Hh Sh⟩ te)) (hb : attributeBase e "value" X.env (eval e X.env) = eval e X.env := by rfl) : PE (X.suite a ((a, oe) :: pn)) (.Attribute e "value" pos) (low ⟨X.K, bornAt Hh Sh⟩ (aErr a v te)) := e_err xv.1 xv.2.1 hz hf xd he hb
/-- {} -/
def aDct0 : AE := fun _ S Q => ∀ l, S l = none → Q (.ref l) (updS S l (.dK []))
theorem e_dct0 {X : Cx} {pos : Pos} : PE X (.Dict [] [] pos) (low (kx X bb) aDct0) := pe_dnewK.weak fun σ H QH ⟨τ, S, Q, R, so, q, k⟩ => fun p hp => by
  have n : S p = none := so.fresh hp
  have st2 := step_put (o := .dK []) (u := .dK []) so hp
  exact k _ _ _ _ (stok_put (u := .dK []) so hp ⟨[], upd_same, rfl, .nil⟩) st2 (.ref p) (q p n)
section
variable {X : Cx} {elt tg iter : Expr} {ifs : List Expr} {scope : Scope} {ai : AI} {tt : AT} {te : AE} {pos spos : Pos}
/-- y = [e for a, b in ..] -/
theorem s_setLcP {y : Str} {py : Pos} (i : Nat) (j jj : Nat) (own : List (Str × Nat)) (hc : X.calm = true) (hN : X.N.Nodup) (hi : PI X tg iter (lowI (kx X bb) ai)) (ok : BlkOk X.N X.env.scope scope own)
    (hg : ∀ (s : Shared) (H : Hp) (C : Addr) (cl : List (Str × Addr)) (fp : List Addr), PG (X.blk s H scope (compEnvC scope cl C X.env) fp) tg (gTup X.K 2 (gCons (gName j) (gCons (gName jj) gNil))))
    (ht : ∀ (s : Shared) (H : Hp) (C : Addr) (cl : List (Str × Addr)) (fp : List Addr), PTs (X.blk s H scope (compEnvC scope cl C X.env) fp) ifs (lowT (kx X bb) tt))
    (he : ∀ (s : Shared) (H : Hp) (C : Addr) (cl : List (Str × Addr)) (fp : List Addr), PE (X.blk s H scope (compEnvC scope cl C X.env) fp) elt (low (kx X bb) te))
    (hj : j ∈ own.map (·.2) := by decide) (hjj : jj ∈ own.map (·.2) := by decide) (hy : X.N[i]? = some y := by rfl) (hyl : X.env.scope.names.lookup y = some .local := by rfl)
    (hsw : swapsWith (.ListComp elt [⟨tg, iter, ifs, 0⟩] scope pos) (some (.Name y py)) spos.line X.env = pure true := by exact sw_true rfl rfl rfl (by decide +kernel)) (hs : ∀ x, foldedSetIterable iter X.env x = pure x := by intro _; rfl) :
    PS X (.Assign [.Name y py] (.ListComp elt [⟨tg, iter, ifs, 0⟩] scope pos) spos) (lowS (kx X bb) (aAsg (aLcP ai j jj tt te (own.map (·.2))) (agName i))) :=
  (ps_setLc (own := own) hc hN hy hyl hsw hi ok hg ht he hs).weak fun D σ H ⟨τ, S, DA, R, so, q, k⟩ => lcP_low hj hjj rfl rfl σ H _ ⟨τ, S, _, R, so, q, fun v H' d S' so' st' r' q' => k.nx _ H' _ S' so' st' ((R.step st').set r' i) q'⟩
end
end L3

set_option Elab.async false
set_option linter.all false
set_option maxRecDepth 100000
set_option maxHeartbeats 2000000
set_option autoImplicit false
/-! L3W: f(k = v), f may raise. -/
namespace L3
open PySem L2 PyProof.Rows
variable {bb : Birth}
structure FnKX (P : Program) (w : World) (K : PySem.W.Frag) (mg : Str → Option Value) (base : Heap) (k : Nat) (x : Str) (ps : List Str) (asp : ASpX) (n : Nat) (ks : List Str) (g : {α : Type} → List α → List α → List α) : Prop where
  ex : ∃ (f : Addr) (fd : FuncData), FnGX P w K mg base k f fd ps (spOfX K asp) ∧ mg x = some (.ref f) ∧ PySem.W.keepIn K (.ref f) = true ∧
    (∀ (s : Shared) (us ws : List Value), us.length = n → ws.length = ks.length → BindsTo s fd ⟨us, ks.zip ws⟩ (ps.zip (g us ws)))
  vals : ∀ {vs : List V} {us : List Value} {zs : List V} {ws : List Value}, vs.length = n → zs.length = ks.length → Vals vs us → Vals zs ws → Vals (g vs zs) (g us ws)
  rels : ∀ {H : Hp} {S : Store} {vs zs : List V} {ds es : List AV}, vs.length = n → zs.length = ks.length → RelAs K H S vs ds → RelAs K H S zs es → RelAs K H S (g vs zs) (g ds es)
theorem run_gkx {X : Cx} {k : Nat} {f : Addr} {fd : FuncData} {ps ks : List Str} {sp : Sp} {g : List Value → List Value → List Value} {gV : List V → List V → List V} {E : XK} {pins : List (Addr × Obj)} {σ : L2.St} {H : Hp} {s : Shared} {Q : VK} {us ws : List Value} {vs zs : List V} (F : FnGX X.prog X.w X.K X.mg X.base k f fd ps sp) (gd : X.A.guards = some [])
    (hr : Room k X.A) (hb : BindsTo s fd ⟨us, ks.zip ws⟩ (ps.zip (g us ws))) (hx : PassesAt (L2N.CX X.prog X.w) X σ E) (I : Inv X pins σ H s) (r : Vals (gV vs zs) (g us ws)) (h : sp (gV vs zs) H Q E) : wpAny (model X.prog X.w) X.A (call (.ref f) us (ks.zip ws)) (fun u s' => EP X pins σ Q u s') X.xe s := by
  refine wpAny_call (codeAny_mono (F.go X.A gd hr X.stack s H ⟨us, ks.zip ws⟩ (g us ws) (gV vs zs) Q E I.env0 hb r h) fun r' s' z => ?_)
  cases r' with
  | error e => exact hx pins H s e s' I z
  | ok fl =>
    cases fl with
    | brk => exact z.elim
    | cont => exact z.elim
    | next => exact z.elim
    | ret u => exact I.after z
section
variable {P : Program} {w : World} {K : PySem.W.Frag} {mg : Str → Option Value} {base : Heap} {k : Nat} {x : Str} {st : Stmt} {ps : List Str} {asp : ASpX}
theorem FnXX.kw (F : FnXX P w K mg base k x st ps asp) (n : Nat) (ks : List Str) (g : {α : Type} → List α → List α → List α)
    (b : ∀ (kV doc pm : Value) (an : Option Addr) (cdv ct : Value) (us ws : List Value), us.length = n → ws.length = ks.length → bindArgs (PySem.W.fnOf x x (defArgs st) (defBody st) (defScope st) .none kV doc pm an cdv ct) ⟨us, ks.zip ws⟩ = pure (ps.zip (g us ws)))
    (vals : ∀ {vs : List V} {us : List Value} {zs : List V} {ws : List Value}, vs.length = n → zs.length = ks.length → Vals vs us → Vals zs ws → Vals (g vs zs) (g us ws))
    (rels : ∀ {H : Hp} {S : Store} {vs zs : List V} {ds es : List AV}, vs.length = n → zs.length = ks.length → RelAs K H S vs ds → RelAs K H S zs es → RelAs K H S (g vs zs) (g ds es)) : FnKX P w K mg base k x ps asp n ks g := by
  obtain ⟨f, fd, F, G, hm, hb⟩ := F.ex
  have kp := F.kp
  obtain ⟨oc, od, kV, doc, pm, an, cdv, ct, osl, rfl, lk, hcd⟩ := F.ex
  exact ⟨⟨f, _, G, hm, kp, fun s us ws l1 l2 => .of_eq (b kV doc pm an cdv ct us ws l1 l2)⟩, vals, rels⟩
theorem FnXX.kwAll (F : FnXX P w K mg base k x st ps asp) (b : ∀ (kV doc pm : Value) (an : Option Addr) (cdv ct : Value) (us ws : List Value), us.length = 0 → ws.length = ps.length → bindArgs (PySem.W.fnOf x x (defArgs st) (defBody st) (defScope st) .none kV doc pm an cdv ct) ⟨us, ps.zip ws⟩ = pure (ps.zip ws)) :
    FnKX P w K mg base k x ps asp 0 ps (fun _ zs => zs) := F.kw 0 ps (fun _ zs => zs) b (fun _ _ _ r => r) (fun _ _ _ r => r)
end
def aCallKX (asp : ASpX) (EX : EXw) (m : Nat) (g : List AV → List AV → List AV) (tk : AA) : AE := fun τ S Q => tk τ S fun zs S1 => zs.length = m ∧ asp (g [] zs) S1 Q (EX τ)
theorem f_callKX0 {X : Cx} {pos p : Pos} {k : Nat} {x : Str} {ps ks : List Str} {asp : ASpX} {EX : EXw} {g : {α : Type} → List α → List α → List α} {kws : List Keyword} {ta : AA} (tk : TkX X bb EX) (F : FnKX X.prog X.w X.K X.mg X.base k x ps asp 0 ks g) (gd : X.A.guards = some []) (hr : Room k X.A) (hkw : PK X kws (lowA (kx X bb) ta)) (hg : Gl X x := by rfl)
    (hall : (backToKw pos (keywordEach kws X.env)).all (·.1.isSome) = true := by rfl) (hks : (backToKw pos (keywordEach kws X.env)).filterMap (·.1) = ks := by rfl) (hdb : (x == ("__debug__" : Str)) = false := by decide)
    (hpl : ((backTo pos (starEach [] X.env)).any (·.1) || (backToKw pos (keywordEach kws X.env)).any (·.1.isNone)) = false := by rfl) :
    PE X (.Call (.Name x p) [] kws pos) (low (kx X bb) (aCallKX asp EX ks.length g ta)) := by
  obtain ⟨f, fd, G, hm, hk, hb⟩ := F.ex
  obtain ⟨W, tw, hw⟩ := tk.ex
  refine ⟨fun pins s σ H QH I h => wpAny_Call_Name_kw (ld_glob I hg hm (PySem.W.callWith_KW0 (h₀ := X.base) I.ok.mod.kin hk hall ?_ hpl) hdb)⟩
  obtain ⟨τ, S, Q, R, so, q, kk⟩ := h
  refine thn (hkw.run pos pins s σ H (fun zs H1 => ∃ es S1, StOk X.K H1 S1 ∧ Step H S H1 S1 ∧ RelAs X.K H1 S1 zs es ∧ es.length = ks.length ∧ asp (g [] es) S1 Q (EX τ)) I ⟨τ, S, _, R, so, q, fun zs H1 es S1 so1 st1 r1 q1 => ⟨es, S1, so1, st1, r1, q1⟩⟩) fun ws s2 z => ?_
  obtain ⟨zs, H2, I2, rz, es, S1, so1, st1, r1, hl, q1⟩ := z
  refine ⟨I2.kIn, ?_⟩
  rw [hks]
  have lz : zs.length = ks.length := r1.length.trans hl
  exact run_gkx (us := []) (vs := []) (zs := zs) (g := g) (gV := g) G gd hr (hb s2 [] ws rfl (rz.length.symm.trans lz)) (L2N.passAt tw σ) I2 (F.vals rfl lz .nil rz) ⟨g [] es, S1, Q, EX τ, F.rels rfl lz .nil r1, so1, q1, fun d S' v H' so' st' r' q' => kk v H' d S' so' (st1.trans st') r' q',
    fun C d v H' S' so' st' xd ex => hw C d v σ τ H' S' (R.step (st1.trans st')) so' xd ex⟩
end L3

set_option Elab.async false
set_option linter.all false
set_option maxRecDepth 100000
set_option maxHeartbeats 2000000
set_option autoImplicit false
/-! L3X: a tuple of the top; tuple.index; keywords in any sequence. -/
namespace L3
open PySem L2 PyProof.Rows
variable {bb : Birth}
def GTup (K : PySem.W.Frag) (mg : Str → Option Value) (x : Str) (zs : List Str) : Prop := ∃ a, mg x = some (.ref a) ∧ KTup K a (zs.map V.str) ∧ ∃ o : Obj, K.lookup a = some o ∧ o.cls = .type "tuple" ∧ o.dict = none
theorem rel_strs' {K : PySem.W.Frag} {H : Hp} {S : Store} : ∀ zs : List Str, RelAs K H S (zs.map V.str) (zs.map AV.str)
  | [] => .nil
  | z :: zs => .cons (.str z) (rel_strs' zs)
theorem e_gT {X : Cx} {x : Str} {zs : List Str} {pos : Pos} (h : GTup X.K X.mg x zs) (hg : Gl X x := by rfl) (hdb : (x == ("__debug__" : Str)) = false := by decide) : PE X (.Name x pos) (low (kx X bb) (aC (.tup (zs.map .str)))) := by
  obtain ⟨a, hm, hk, _⟩ := h
  exact (pe_glob (v := .ref a) hg hm rfl hdb).weak fun σ H QH ⟨τ, S, Q, R, so, q, k⟩ => k (.ref a) H (.tup (zs.map .str)) S so .refl (.tupK hk (rel_strs' zs)) q
theorem gT_of {K : PySem.W.Frag} {h : Heap} {mg : Str → Option Value} {x : Str} {zs : List Str} {a : Addr} {its : Array Value} {n : Nat} {sl : Array (Option Value)} (X : K.In h) (G : h.Ns mainGlobals mg)
    (e : PySem.W.nsIn K mainGlobals x = some (some (.ref a))) (l : K.lookup a = some ⟨.type "tuple", none, .seq its n, sl⟩) (hs : its.size ≤ sizeLine) (hv : Vals (zs.map V.str) its.toList) : GTup K mg x zs := ⟨a, PySem.W.mg_of X G e, ⟨_, its, n, l, rfl, rfl, hs, hv⟩, _, l, rfl, rfl⟩
/-- tuple.index of strings -/
def mIndexT (x : AV) (as : List AV) (S : Store) (Q : AK) : Prop := ∃ (zs : List Str) (z : Str) (j : Nat), x = .tup (zs.map .str) ∧ as = [.str z] ∧ zs[j]? = some z ∧ (∀ m, m < j → zs[m]? ≠ some z) ∧ Q (.int (j : Nat)) S
theorem rel_strsE {K : PySem.W.Frag} {H : Hp} {S : Store} : ∀ {zs : List Str} {vs : List V}, RelAs K H S vs (zs.map AV.str) → vs = zs.map V.str
  | [], _, .nil => rfl
  | z :: zs, _, .cons r t => by rw [rel_strE r, rel_strsE t]; rfl
theorem m_indexT {X : Cx} : MtR X "tuple.index" (lowM X.K mIndexT) := mtr_weak mt_tup_index fun x vs H QH ⟨dx, as, S, Q, rx, rs, so, ⟨zs, z, j, ex, ea, hj, hno, q⟩, k⟩ => by
  subst ex ea
  obtain ⟨w, rfl, rw'⟩ := rel_one rs
  obtain rfl := rel_strE rw'
  obtain ⟨a, ws, rfl, hl, rl⟩ := rel_tupE rx
  obtain rfl := rel_strsE rl
  exact ⟨a, zs, z, j, rfl, rfl, hl, hj, hno, k _ H _ S so .refl (.int _) q⟩
/-- keywords in any sequence: the i-th parameter is the ix[i]-th keyword -/
def permG (ix : List Nat) {α : Type} (_us ws : List α) : List α := ix.filterMap fun i => ws[i]?
theorem vals_at {vs : List V} {us : List Value} (h : Vals vs us) (i : Nat) : (vs[i]? = none ∧ us[i]? = none) ∨ ∃ v u, vs[i]? = some v ∧ us[i]? = some u ∧ RelV v u := by
  induction h generalizing i with
  | nil => exact .inl ⟨rfl, rfl⟩
  | cons r _ ih =>
    cases i with
    | zero => exact .inr ⟨_, _, rfl, rfl, r⟩
    | succ i => exact ih i
theorem vals_perm {vs : List V} {us : List Value} (h : Vals vs us) : ∀ ix : List Nat, Vals (ix.filterMap fun i => vs[i]?) (ix.filterMap fun i => us[i]?)
  | [] => .nil
  | i :: ix => by
    rw [List.filterMap_cons, List.filterMap_cons]
    rcases vals_at h i with ⟨e1, e2⟩ | ⟨v, u, e1, e2, r⟩
    · rw [e1, e2]; exact vals_perm h ix
    · rw [e1, e2]; exact .cons r (vals_perm h ix)
theorem rels_at {K : PySem.W.Frag} {H : Hp} {S : Store} : ∀ {vs : List V} {ds : List AV}, RelAs K H S vs ds → ∀ i : Nat, (vs[i]? = none ∧ ds[i]? = none) ∨ ∃ v d, vs[i]? = some v ∧ ds[i]? = some d ∧ RelA K H S v d
  | _, _, .nil, i => .inl ⟨rfl, rfl⟩
  | _, _, .cons r _, 0 => .inr ⟨_, _, rfl, rfl, r⟩
  | _, _, .cons _ t, i + 1 => rels_at t i
theorem rels_perm {K : PySem.W.Frag} {H : Hp} {S : Store} {vs : List V} {ds : List AV} (h : RelAs K H S vs ds) : ∀ ix : List Nat, RelAs K H S (ix.filterMap fun i => vs[i]?) (ix.filterMap fun i => ds[i]?)
  | [] => .nil
  | i :: ix => by
    rw [List.filterMap_cons, List.filterMap_cons]
    rcases rels_at h i with ⟨e1, e2⟩ | ⟨v, u, e1, e2, r⟩
    · rw [e1, e2]; exact rels_perm h ix
    · rw [e1, e2]; exact .cons r (rels_perm h ix)
section
variable {P : Program} {w : World} {K : PySem.W.Frag} {mg : Str → Option Value} {base : Heap} {k : Nat} {x : Str} {st : Stmt} {ps : List Str}
theorem FnX.kwP {asp : ASp} (F : FnX P w K mg base k x st ps asp) (ix : List Nat) (ks : List Str)
    (b : ∀ (kV doc pm : Value) (an : Option Addr) (cdv ct : Value) (us ws : List Value), us.length = 0 → ws.length = ks.length → bindArgs (PySem.W.fnOf x x (defArgs st) (defBody st) (defScope st) .none kV doc pm an cdv ct) ⟨us, ks.zip ws⟩ = pure (ps.zip (permG ix us ws))) : FnK P w K mg base k x ps asp 0 ks (permG ix) :=
  F.kw 0 ks (permG ix) b (fun _ _ _ r => vals_perm r ix) (fun _ _ _ r => rels_perm r ix)
theorem FnXX.kwP {asp : ASpX} (F : FnXX P w K mg base k x st ps asp) (ix : List Nat) (ks : List Str)
    (b : ∀ (kV doc pm : Value) (an : Option Addr) (cdv ct : Value) (us ws : List Value), us.length = 0 → ws.length = ks.length → bindArgs (PySem.W.fnOf x x (defArgs st) (defBody st) (defScope st) .none kV doc pm an cdv ct) ⟨us, ks.zip ws⟩ = pure (ps.zip (permG ix us ws))) : FnKX P w K mg base k x ps asp 0 ks (permG ix) :=
  F.kw 0 ks (permG ix) b (fun _ _ _ r => vals_perm r ix) (fun _ _ _ r => rels_perm r ix)
end
/-- N.name(e, ..), N a tuple of the top -/
theorem e_bmT {X : Cx} {x name : Str} {zs : List Str} {p apos pos : Pos} {id : String} {am : AV → List AV → Store → AK → Prop} {e : Expr} {es : List Expr} {t : AA} (T : GTup X.K X.mg x zs) (slot : Slot "tuple" name id) (hty : typeOf (.builtin id) = pure (.type "method_descriptor")) (hm : MtR X id (lowM X.K am)) (ha : PA X (e :: es) (lowA (kx X bb) t))
    (hg : Gl X x := by rfl) (hdb : (x == ("__debug__" : Str)) = false := by decide) (hbase : attributeBase (.Name x p) name X.env (eval (.Name x p) X.env) = eval (.Name x p) X.env := by rfl)
    (h2 : ((((backTo pos (starEach (e :: es) X.env)).all fun x => !x.1) && (backToKw pos (keywordEach [] X.env)).all fun x => x.1.isSome) && decide ((e :: es).length + ([] : List Keyword).length + (if ([] : List Keyword).isEmpty = true then 0 else 1) < 30)) = true := by rfl)
    (h3 : (apos.endLine == pos.line) = true := by decide +kernel) (h4 : starEach (e :: es) X.env = (false, eval e X.env) :: starEach es X.env := by rfl) (h5 : (backTo pos (starEach es X.env)).any (·.1) = false := by rfl) :
    PE X (.Call (.Attribute (.Name x p) name apos) (e :: es) [] pos) (low (kx X bb) (fun τ S Q => t τ S fun ds S2 => am (.tup (zs.map .str)) ds S2 Q)) := by
  obtain ⟨a, hm', hk, o, hlk, hc, hd⟩ := T
  exact (pe_bm PySem.F.plainAttrs_tuple slot hty hm (pe_glob (v := .ref a) hg hm' rfl hdb) ha hbase h2 h3 h4 h5).weak fun σ H QH ⟨τ, S, Q, R, so, q, k⟩ => ⟨.inr (.inl ⟨rfl, o, hlk, hc, hd⟩), τ, S, _, R, so, q, fun vs H2 ds S2 so2 st2 r2 q2 =>
    ⟨.tup (zs.map .str), ds, S2, Q, .tupK hk (rel_strs' zs), r2, so2, q2, fun v H' d S' so' st' r' q' => k v H' d S' so' (st2.trans st') r' q'⟩⟩
end L3

set_option Elab.async false
set_option linter.all false
set_option maxRecDepth 100000
set_option maxHeartbeats 2000000
set_option autoImplicit false
/-! L3Y: comprehensions whose parts read the store. -/
namespace L3
open PySem L2 PyProof.Rows
theorem lcF_allMS {α : Type} {xs : List α} {te : AE} {j : Nat} {vs : List Nat} {τ : ASt} {S1 : Store} {Q : AK} {G : Store → Prop} (g : α → AV) (f : α → AV) (hl : xs.length ≤ sizeLine) (hG : ∀ D, S1 D = none → G (updS S1 D .hid))
    (stepE : ∀ x ∈ xs, ∀ (D : Addr) (hD : S1 D = none) (Qe : AK), Qe (f x) (updS S1 D .hid) → te ((wipeA τ vs).set j (some (g x))) (updS S1 D .hid) Qe) (q : Q (.lst (xs.map f)) S1) : LcGoF aYes te j vs τ Q G (xs.map g) S1 := by
  intro D hD
  refine ⟨fun i acc S2 => i ≤ xs.length ∧ acc = (xs.take i).map f ∧ S2 = updS S1 D .hid, ⟨Nat.zero_le _, rfl, rfl⟩, fun i x acc S2 hx ⟨hi, ea, es⟩ => ?_, fun acc S2 ⟨hi, ea, es⟩ => ?_⟩
  · rw [List.getElem?_map] at hx
    cases hy : xs[i]? with
    | none => rw [hy] at hx; cases hx
    | some y =>
      rw [hy] at hx
      cases hx
      have hlt := (List.getElem?_eq_some_iff.mp hy).1
      have hm := List.mem_of_getElem? hy
      subst es
      refine ⟨hG D hD, ?_⟩
      unfold aYes
      simp only [if_true]
      refine stepE y hm D hD _ ⟨?_, hlt, ?_, rfl⟩
      · rw [ea, List.length_map, List.length_take]
        omega
      · rw [ea, List.take_add_one, hy]
        simp
  · subst es
    rw [List.length_map] at ea
    refine ⟨hG D hD, ?_⟩
    rw [ea, List.take_length, dropS_upd hD]
    exact q
theorem lcF_pureMS {α : Type} {xs : List α} {tt : AT} {te : AE} {j : Nat} {vs : List Nat} {τ : ASt} {S1 : Store} {Q : AK} {G : Store → Prop} (g : α → AV) (p : α → Bool) (f : α → AV) (hl : xs.length ≤ sizeLine) (hG : ∀ D, S1 D = none → G (updS S1 D .hid))
    (stepT : ∀ x ∈ xs, ∀ (D : Addr) (hD : S1 D = none) (Qb : Bool → Store → Prop), Qb (p x) (updS S1 D .hid) → tt ((wipeA τ vs).set j (some (g x))) (updS S1 D .hid) Qb)
    (stepE : ∀ x ∈ xs, p x = true → ∀ (D : Addr) (hD : S1 D = none) (Qe : AK), Qe (f x) (updS S1 D .hid) → te ((wipeA τ vs).set j (some (g x))) (updS S1 D .hid) Qe) (q : Q (.lst ((xs.filter p).map f)) S1) : LcGoF tt te j vs τ Q G (xs.map g) S1 := by
  intro D hD
  refine ⟨fun i acc S2 => i ≤ xs.length ∧ acc = ((xs.take i).filter p).map f ∧ S2 = updS S1 D .hid, ⟨Nat.zero_le _, rfl, rfl⟩, fun i x acc S2 hx ⟨hi, ea, es⟩ => ?_, fun acc S2 ⟨hi, ea, es⟩ => ?_⟩
  · rw [List.getElem?_map] at hx
    cases hy : xs[i]? with
    | none => rw [hy] at hx; cases hx
    | some y =>
      rw [hy] at hx
      cases hx
      have hlt := (List.getElem?_eq_some_iff.mp hy).1
      have hm := List.mem_of_getElem? hy
      subst es
      refine ⟨hG D hD, stepT y hm D hD _ ?_⟩
      cases hp : p y with
      | false =>
        rw [if_neg Bool.false_ne_true]
        refine ⟨hlt, ?_, rfl⟩
        rw [ea, List.take_add_one, hy]
        simp [hp]
      | true =>
        rw [if_pos rfl]
        refine stepE y hm hp D hD _ ⟨?_, hlt, ?_, rfl⟩
        · have h1 : ((xs.take i).filter p).length ≤ (xs.take i).length := List.length_filter_le ..
          rw [List.length_take] at h1
          rw [ea, List.length_map]
          omega
        · rw [ea, List.take_add_one, hy]
          simp [hp]
  · subst es
    rw [List.length_map] at ea
    refine ⟨hG D hD, ?_⟩
    rw [ea, List.take_length, dropS_upd hD]
    exact q
section
variable {α : Type} {xs : List α} {tt : AT} {te : AE} {j k : Nat} {vs : List Nat} {τ : ASt} {S1 : Store} {Q : AK} {G : Store → Prop}
theorem lcP_pureS (u v : α → AV) (p : α → Bool) (f : α → AV) (hl : xs.length ≤ sizeLine) (hG : ∀ D, S1 D = none → G (updS S1 D .hid)) (stepT : ∀ x ∈ xs, ∀ (D : Addr) (hD : S1 D = none) (Qb : Bool → Store → Prop), Qb (p x) (updS S1 D .hid) → tt (((wipeA τ vs).set j (some (u x))).set k (some (v x))) (updS S1 D .hid) Qb)
    (stepE : ∀ x ∈ xs, p x = true → ∀ (D : Addr) (hD : S1 D = none) (Qe : AK), Qe (f x) (updS S1 D .hid) → te (((wipeA τ vs).set j (some (u x))).set k (some (v x))) (updS S1 D .hid) Qe) (q : Q (.lst ((xs.filter p).map f)) S1) : LcGoP tt te j k vs τ Q G (xs.map fun x => .tup [u x, v x]) S1 := by
  intro D hD
  refine ⟨fun i acc S2 => i ≤ xs.length ∧ acc = ((xs.take i).filter p).map f ∧ S2 = updS S1 D .hid, ⟨Nat.zero_le _, rfl, rfl⟩, fun i x acc S2 hx ⟨hi, ea, es⟩ => ?_, fun acc S2 ⟨hi, ea, es⟩ => ?_⟩
  · rw [List.getElem?_map] at hx
    cases hy : xs[i]? with
    | none => rw [hy] at hx; cases hx
    | some y =>
      rw [hy] at hx
      cases hx
      have hlt := (List.getElem?_eq_some_iff.mp hy).1
      have hm := List.mem_of_getElem? hy
      subst es
      refine ⟨hG D hD, _, _, rfl, stepT y hm D hD _ ?_⟩
      cases hp : p y with
      | false =>
        rw [if_neg Bool.false_ne_true]
        refine ⟨hlt, ?_, rfl⟩
        rw [ea, List.take_add_one, hy]
        simp [hp]
      | true =>
        rw [if_pos rfl]
        refine stepE y hm hp D hD _ ⟨?_, hlt, ?_, rfl⟩
        · have h1 : ((xs.take i).filter p).length ≤ (xs.take i).length := List.length_filter_le ..
          rw [List.length_take] at h1
          rw [ea, List.length_map]
          omega
        · rw [ea, List.take_add_one, hy]
          simp [hp]
  · subst es
    rw [List.length_map] at ea
    refine ⟨hG D hD, ?_⟩
    rw [ea, List.take_length, dropS_upd hD]
    exact q
end
end L3

set_option Elab.async false
set_option linter.all false
set_option maxRecDepth 100000
set_option maxHeartbeats 2000000
set_option autoImplicit false
/-! L3Z: dicts in the store, keyed by whole numbers and strings. -/
namespace L3
open PySem L2 PyProof.Rows
variable {bb : Birth}
def kA : Key → AV
  | .inl i => .int i
  | .inr x => .str x
def valA (kvs : List (Key × AV)) (k : Key) : Option AV := (kvs.find? fun kv => decide (kv.1 = k)).map (·.2)
def putKA (kvs : List (Key × AV)) (k : Key) (d : AV) : List (Key × AV) := if (kvs.any fun kv => decide (kv.1 = k)) = true then kvs.map (fun kv => if kv.1 = k then (kv.1, d) else kv) else kvs ++ [(k, d)]
def dropKA (kvs : List (Key × AV)) (k : Key) : List (Key × AV) := kvs.filter fun kv => decide (kv.1 ≠ k)
section
variable {K : PySem.W.Frag} {H : Hp} {S : Store}
theorem rel_kE {v : V} {k : Key} (r : RelA K H S v (kA k)) : v = kV k := by
  cases k with
  | inl i => exact rel_intE r
  | inr z => exact rel_strE r
theorem rel_k (k : Key) : RelA K H S (kV k) (kA k) := by
  cases k with
  | inl i => exact .int i
  | inr z => exact .str z
/-- alike dicts: the keys the same, the values related -/
def RelD (K : PySem.W.Frag) (H : Hp) (S : Store) (ws : List (Key × V)) (kvs : List (Key × AV)) : Prop := ws.map (·.1) = kvs.map (·.1) ∧ RelAs K H S (ws.map (·.2)) (kvs.map (·.2))
theorem relD_cons {p : Key × V} {ws : List (Key × V)} {q : Key × AV} {kvs : List (Key × AV)} (h : RelD K H S (p :: ws) (q :: kvs)) : p.1 = q.1 ∧ RelA K H S p.2 q.2 ∧ RelD K H S ws kvs := by
  obtain ⟨h1, h2⟩ := h
  rw [List.map_cons, List.map_cons] at h1
  rw [List.map_cons, List.map_cons] at h2
  obtain ⟨e1, e2⟩ := List.cons.inj h1
  cases h2 with
  | cons r t => exact ⟨e1, r, e2, t⟩
theorem relD_mk {p : Key × V} {ws : List (Key × V)} {q : Key × AV} {kvs : List (Key × AV)} (h1 : p.1 = q.1) (h2 : RelA K H S p.2 q.2) (h : RelD K H S ws kvs) : RelD K H S (p :: ws) (q :: kvs) :=
  ⟨by rw [List.map_cons, List.map_cons, h1, h.1], by rw [List.map_cons, List.map_cons]; exact .cons h2 h.2⟩
theorem rel_val (k : Key) : ∀ {ws : List (Key × V)} {kvs : List (Key × AV)}, RelD K H S ws kvs → (valV ws k = none ∧ valA kvs k = none) ∨ ∃ v d, valV ws k = some v ∧ valA kvs k = some d ∧ RelA K H S v d
  | [], [], _ => .inl ⟨rfl, rfl⟩
  | [], _ :: _, h => by cases h.1
  | _ :: _, [], h => by cases h.1
  | p :: ws, q :: kvs, h => by
    obtain ⟨e, r, t⟩ := relD_cons h
    by_cases hk : p.1 = k
    · refine .inr ⟨p.2, q.2, valV_pos hk, ?_, r⟩
      simp [valA, List.find?_cons, e ▸ hk]
    · have hk' : ¬ q.1 = k := e ▸ hk
      have e2 : valA (q :: kvs) k = valA kvs k := by simp [valA, List.find?_cons, hk']
      rw [valV_neg hk, e2]
      exact rel_val k t
theorem relD_any (k : Key) : ∀ {ws : List (Key × V)} {kvs : List (Key × AV)}, RelD K H S ws kvs → (ws.any fun kv => decide (kv.1 = k)) = kvs.any fun kv => decide (kv.1 = k)
  | [], [], _ => rfl
  | [], _ :: _, h => by cases h.1
  | _ :: _, [], h => by cases h.1
  | p :: ws, q :: kvs, h => by
    obtain ⟨e, r, t⟩ := relD_cons h
    rw [List.any_cons, List.any_cons, e, relD_any k t]
theorem relD_map (k : Key) {v : V} {d : AV} (r : RelA K H S v d) : ∀ {ws : List (Key × V)} {kvs : List (Key × AV)}, RelD K H S ws kvs → RelD K H S (ws.map fun kv => if kv.1 = k then (kv.1, v) else kv) (kvs.map fun kv => if kv.1 = k then (kv.1, d) else kv)
  | [], [], h => h
  | [], _ :: _, h => by cases h.1
  | _ :: _, [], h => by cases h.1
  | p :: ws, q :: kvs, h => by
    obtain ⟨e, r', t⟩ := relD_cons h
    rw [List.map_cons, List.map_cons]
    by_cases hk : p.1 = k
    · have hk' : q.1 = k := e ▸ hk
      rw [if_pos hk, if_pos hk']
      exact relD_mk e r (relD_map k r t)
    · have hk' : ¬ q.1 = k := e ▸ hk
      rw [if_neg hk, if_neg hk']
      exact relD_mk e r' (relD_map k r t)
theorem relD_app {v : V} {d : AV} {k : Key} (r : RelA K H S v d) : ∀ {ws : List (Key × V)} {kvs : List (Key × AV)}, RelD K H S ws kvs → RelD K H S (ws ++ [(k, v)]) (kvs ++ [(k, d)])
  | [], [], _ => ⟨rfl, .cons r .nil⟩
  | [], _ :: _, h => by cases h.1
  | _ :: _, [], h => by cases h.1
  | p :: ws, q :: kvs, h => by
    obtain ⟨e, r', t⟩ := relD_cons h
    exact relD_mk e r' (relD_app r t)
theorem relD_put (k : Key) {v : V} {d : AV} (r : RelA K H S v d) {ws : List (Key × V)} {kvs : List (Key × AV)} (h : RelD K H S ws kvs) : RelD K H S (putK ws k v) (putKA kvs k d) := by
  unfold putK putKA
  rw [relD_any k h]
  split
  · exact relD_map k r h
  · exact relD_app r h
theorem relD_drop (k : Key) : ∀ {ws : List (Key × V)} {kvs : List (Key × AV)}, RelD K H S ws kvs → RelD K H S (dropK ws k) (dropKA kvs k)
  | [], [], h => h
  | [], _ :: _, h => by cases h.1
  | _ :: _, [], h => by cases h.1
  | p :: ws, q :: kvs, h => by
    obtain ⟨e, r', t⟩ := relD_cons h
    unfold dropK dropKA
    rw [List.filter_cons, List.filter_cons]
    have ih : RelD K H S (ws.filter fun kv => decide (kv.1 ≠ k)) (kvs.filter fun kv => decide (kv.1 ≠ k)) := relD_drop k t
    rw [e]
    split
    · exact relD_mk e r' ih
    · exact ih
theorem relD_len {ws : List (Key × V)} {kvs : List (Key × AV)} (h : RelD K H S ws kvs) : ws.length = kvs.length := by
  have := congrArg List.length h.1
  rw [List.length_map, List.length_map] at this
  exact this
end
/-- d[k] -/
def aDGet (to ti : AE) : AE := fun τ S Q => to τ S fun x S1 => ti τ S1 fun y S2 => ∃ a kvs k d, x = .ref a ∧ S2 a = some (.dK kvs) ∧ y = kA k ∧ valA kvs k = some d ∧ Q d S2
def aDGet2 (to ti tz : AE) : AE := fun τ S Q => to τ S fun x S1 => ∃ a kvs0, x = .ref a ∧ S1 a = some (.dK kvs0) ∧ ti τ S1 fun y S2 => tz τ S2 fun z S3 => ∃ kvs k, S3 a = some (.dK kvs) ∧ y = kA k ∧ Q ((valA kvs k).getD z) S3
def aDGet1 (to ti : AE) : AE := fun τ S Q => to τ S fun x S1 => ∃ a kvs0, x = .ref a ∧ S1 a = some (.dK kvs0) ∧ ti τ S1 fun y S2 => ∃ kvs k, S2 a = some (.dK kvs) ∧ y = kA k ∧ Q ((valA kvs k).getD .non) S2
def aDPut (to ti tv : AE) : AS := fun D τ S => tv τ S fun v S1 => to τ S1 fun x S2 => ti τ S2 fun y S3 => ∃ a kvs k, x = .ref a ∧ S3 a = some (.dK kvs) ∧ y = kA k ∧ kvs.length < sizeLine ∧ D.nx τ (updS S3 a (.dK (putKA kvs k v)))
section
variable {X : Cx} {o i e f value : Expr} {pos pos' apos cpos : Pos} {to ti tv tz : AE}
theorem e_dget (hu : X.A.units + 1 < cLine) (ho : PE X o (low (kx X bb) to)) (hi : PE X i (low (kx X bb) ti)) (hs : NoSl i := by intro _ _; rfl) : PE X (.Subscript o i pos) (low (kx X bb) (aDGet to ti)) :=
  (pe_dget hu ho hi hs).weak fun σ H QH ⟨τ, S, Q, R, so, q, k⟩ => ⟨τ, S, _, R, so, q, fun v H1 d S1 so1 st1 r1 q1 => ⟨τ, S1, _, R.step st1, so1, q1, fun u H2 y S2 so2 st2 r2 ⟨a, kvs, kk, dd, ex, hs2, ey, hv, q2⟩ => by
    subst ex ey
    obtain rfl := rel_refE r1
    obtain rfl := rel_kE r2
    obtain ⟨ws, hw, h1, h2⟩ := so2 a _ hs2
    rcases rel_val kk (K := X.K) (H := H2) (S := S2) ⟨h1, h2⟩ with ⟨_, e2⟩ | ⟨v, d', e1, e2, r⟩
    · rw [hv] at e2; cases e2
    · rw [hv] at e2
      cases e2
      exact ⟨a, v, rfl, by rw [← e1]; exact .k hw, k v H2 dd S2 so2 (st1.trans st2) r q2⟩⟩⟩
theorem isD_of {K : PySem.W.Frag} {H : Hp} {S : Store} {a : Addr} {kvs : List (Key × AV)} (so : StOk K H S) (h : S a = some (.dK kvs)) : IsD H a := by
  obtain ⟨ws, hw, _⟩ := so a _ h
  exact .inl ⟨ws, .inl hw⟩
theorem e_dget2 (hu : X.A.units + 1 < cLine) (ho : PE X o (low (kx X bb) to)) (he : PE X e (low (kx X bb) ti)) (hf : PE X f (low (kx X bb) tz)) (m : M2 X o "get" apos e f cpos := by exact ⟨rfl, rfl, by decide +kernel, rfl⟩) : PE X (.Call (.Attribute o "get" apos) [e, f] [] cpos) (low (kx X bb) (aDGet2 to ti tz)) :=
  (pe_dget2 hu ho he hf m).weak fun σ H QH ⟨τ, S, Q, R, so, q, k⟩ => ⟨τ, S, _, R, so, q, fun v H1 d S1 so1 st1 r1 ⟨a, kvs0, ex, hs1, q1⟩ => by
    subst ex
    obtain rfl := rel_refE r1
    refine ⟨a, rfl, isD_of so1 hs1, τ, S1, _, R.step st1, so1, q1, fun y' H2 y S2 so2 st2 r2 q2 => ⟨τ, S2, _, R.step (st1.trans st2), so2, q2, fun z' H3 z S3 so3 st3 r3 ⟨kvs, kk, hs3, ey, q3⟩ => ?_⟩⟩
    subst ey
    obtain rfl := rel_kE r2
    obtain ⟨ws, hw, h1, h2⟩ := so3 a _ hs3
    refine ⟨valV ws kk, .k hw, ?_⟩
    rcases rel_val kk (K := X.K) (H := H3) (S := S3) ⟨h1, h2⟩ with ⟨e1, e2⟩ | ⟨v, d', e1, e2, r⟩
    · rw [e1]
      rw [e2] at q3
      exact k z' H3 z S3 so3 ((st1.trans st2).trans st3) r3 q3
    · rw [e1]
      rw [e2] at q3
      exact k v H3 d' S3 so3 ((st1.trans st2).trans st3) r q3⟩
theorem e_dget1 (hu : X.A.units + 1 < cLine) (ho : PE X o (low (kx X bb) to)) (he : PE X e (low (kx X bb) ti)) (m : M1 X o "get" apos e cpos := by exact ⟨rfl, rfl, by decide +kernel, rfl⟩) : PE X (.Call (.Attribute o "get" apos) [e] [] cpos) (low (kx X bb) (aDGet1 to ti)) :=
  (pe_dget1 hu ho he m).weak fun σ H QH ⟨τ, S, Q, R, so, q, k⟩ => ⟨τ, S, _, R, so, q, fun v H1 d S1 so1 st1 r1 ⟨a, kvs0, ex, hs1, q1⟩ => by
    subst ex
    obtain rfl := rel_refE r1
    refine ⟨a, rfl, isD_of so1 hs1, τ, S1, _, R.step st1, so1, q1, fun y' H2 y S2 so2 st2 r2 ⟨kvs, kk, hs2, ey, q2⟩ => ?_⟩
    subst ey
    obtain rfl := rel_kE r2
    obtain ⟨ws, hw, h1, h2⟩ := so2 a _ hs2
    refine ⟨valV ws kk, .k hw, ?_⟩
    rcases rel_val kk (K := X.K) (H := H2) (S := S2) ⟨h1, h2⟩ with ⟨e1, e2⟩ | ⟨v, d', e1, e2, r⟩
    · rw [e1]
      rw [e2] at q2
      exact k .non H2 .non S2 so2 (st1.trans st2) .non q2
    · rw [e1]
      rw [e2] at q2
      exact k v H2 d' S2 so2 (st1.trans st2) r q2⟩
theorem s_dput (hu : X.A.units + 1 < cLine) (ho : PE X o (low (kx X bb) to)) (hi : PE X i (low (kx X bb) ti)) (hv : PE X value (low (kx X bb) tv)) (hs : swapsWith value (some (.Subscript o i pos')) pos.line X.env = pure false := by rfl) :
    PS X (.Assign [.Subscript o i pos'] value pos) (lowS (kx X bb) (aDPut to ti tv)) :=
  (ps_dput hu ho hi hv hs).weak fun D σ H ⟨τ, S, DA, R, so, q, k⟩ => ⟨τ, S, _, R, so, q, fun v H1 d S1 so1 st1 r1 q1 => ⟨τ, S1, _, R.step st1, so1, q1, fun u H2 x S2 so2 st2 r2 q2 => ⟨τ, S2, _, R.step (st1.trans st2), so2, q2, fun y' H3 y S3 so3 st3 r3 ⟨a, kvs, kk, ex, hs3, ey, hl, q3⟩ => by
    subst ex ey
    obtain rfl := rel_refE (r2.step st3)
    obtain rfl := rel_kE r3
    obtain ⟨ws, hw, h1, h2⟩ := so3 a _ hs3
    have rd : RelD X.K H3 S3 (putK ws kk v) (putKA kvs kk d) := relD_put kk (r1.step (st2.trans st3)) ⟨h1, h2⟩
    have st4 : Step H3 S3 (upd H3 a (.dK (putK ws kk v))) (updS S3 a (.dK (putKA kvs kk d))) := step_mut hs3 (by intro z; cases z)
    have so4 := stok_mut (o := .dK (putK ws kk v)) (u := .dK (putKA kvs kk d)) so3 hs3 (by intro z; cases z) ⟨_, upd_same, rd.1, rd.2.step st4⟩
    exact ⟨a, _, rfl, .k hw (by rw [relD_len (K := X.K) (H := H3) (S := S3) ⟨h1, h2⟩]; exact hl), k.nx σ _ τ _ so4 (((st1.trans st2).trans st3).trans st4) (R.step (((st1.trans st2).trans st3).trans st4)) q3⟩⟩⟩⟩
/-- k in d -/
def aDIn (b : Bool) (ti to : AE) : AE := fun τ S Q => ti τ S fun y S1 => to τ S1 fun x S2 => ∃ a kvs k, x = .ref a ∧ S2 a = some (.dK kvs) ∧ y = kA k ∧ Q (.bl (if b = true then (valA kvs k).isSome else !(valA kvs k).isSome)) S2
theorem e_din (hu : X.A.units + 1 < cLine) (hi : PE X i (low (kx X bb) ti)) (ho : PE X o (low (kx X bb) to)) (h1 : behindInMarks .In o = false := by first | exact nobehind _ (by decide) (by decide) | rfl) : PE X (.Compare i [.In] [o] pos) (low (kx X bb) (aDIn true ti to)) :=
  (pe_cmp (pc_din hu hi ho) h1).weak fun σ H QH ⟨τ, S, Q, R, so, q, k⟩ => ⟨τ, S, _, R, so, q, fun y' H1 y S1 so1 st1 r1 q1 => ⟨τ, S1, _, R.step st1, so1, q1, fun u H2 x S2 so2 st2 r2 ⟨a, kvs, kk, ex, hs2, ey, q2⟩ => by
    subst ex ey
    obtain rfl := rel_refE r2
    obtain rfl := rel_kE r1
    obtain ⟨ws, hw, g1, g2⟩ := so2 a _ hs2
    refine ⟨a, valV ws kk, rfl, .k hw, ?_⟩
    have e : (valV ws kk).isSome = (valA kvs kk).isSome := by
      rcases rel_val kk (K := X.K) (H := H2) (S := S2) ⟨g1, g2⟩ with ⟨e1, e2⟩ | ⟨v, d', e1, e2, _⟩ <;> rw [e1, e2] <;> rfl
    rw [e]
    exact k _ H2 _ S2 so2 (st1.trans st2) (.bl _) q2⟩⟩
theorem e_dnin (hu : X.A.units + 1 < cLine) (hi : PE X i (low (kx X bb) ti)) (ho : PE X o (low (kx X bb) to)) (h1 : behindInMarks .NotIn o = false := by first | exact nobehind _ (by decide) (by decide) | rfl) : PE X (.Compare i [.NotIn] [o] pos) (low (kx X bb) (aDIn false ti to)) :=
  (pe_cmp (pc_dnotin hu hi ho) h1).weak fun σ H QH ⟨τ, S, Q, R, so, q, k⟩ => ⟨τ, S, _, R, so, q, fun y' H1 y S1 so1 st1 r1 q1 => ⟨τ, S1, _, R.step st1, so1, q1, fun u H2 x S2 so2 st2 r2 ⟨a, kvs, kk, ex, hs2, ey, q2⟩ => by
    subst ex ey
    obtain rfl := rel_refE r2
    obtain rfl := rel_kE r1
    obtain ⟨ws, hw, g1, g2⟩ := so2 a _ hs2
    refine ⟨a, valV ws kk, rfl, .k hw, ?_⟩
    have e : (valV ws kk).isSome = (valA kvs kk).isSome := by
      rcases rel_val kk (K := X.K) (H := H2) (S := S2) ⟨g1, g2⟩ with ⟨e1, e2⟩ | ⟨v, d', e1, e2, _⟩ <;> rw [e1, e2] <;> rfl
    rw [e]
    exact k _ H2 _ S2 so2 (st1.trans st2) (.bl _) q2⟩⟩
end
/-- list(x), the new list in the store -/
def aListS (t : AA) : AE := fun τ S Q => t τ S fun ds S1 => ∃ d xs, ds = [d] ∧ seqA S1 d = some xs ∧ ∀ l, S1 l = none → Q (.ref l) (updS S1 l (.lst xs))
theorem e_listS {X : Cx} {e : Expr} {es : List Expr} {t : AA} {p pos : Pos} (hm : X.mg "list" = none) (ha : PA X (e :: es) (lowA (kx X bb) t)) (hg : Gl X "list" := by rfl) (he : starEach (e :: es) X.env = (false, eval e X.env) :: starEach es X.env := by rfl) (hpl : (backTo pos (starEach es X.env)).any (·.1) = false := by rfl) :
    PE X (.Call (.Name "list" p) (e :: es) [] pos) (low (kx X bb) (aListS t)) :=
  (pe_callTy call_list_of hg hm (by decide +kernel) ha (by decide) (by decide) he hpl).weak fun σ H QH ⟨τ, S, Q, R, so, q, k⟩ => ⟨τ, S, _, R, so, q, fun vs H1 ds S1 so1 st1 r1 ⟨d, xs, ed, e, q1⟩ => by
    subst ed
    obtain ⟨w, rfl, rw'⟩ := rel_one r1
    obtain ⟨a, vs, rfl, ha, ra⟩ := rel_seqE so1 rw' e
    exact ⟨a, vs, rfl, ha, fun l hl => by
      have n : S1 l = none := so1.fresh hl
      have st2 := step_put (o := .lst vs) (u := .lst xs) so1 hl
      exact k _ _ _ _ (stok_put (u := .lst xs) so1 hl ⟨vs, upd_same, ra.step st2⟩) (st1.trans st2) (.ref l) (q1 l n)⟩⟩
/-! ### texts -/
def mIsAscii (x : AV) (as : List AV) (S : Store) (Q : AK) : Prop := ∃ z, x = .str z ∧ as = [] ∧ Q (.bl (Txt.isascii z)) S
theorem m_isascii {X : Cx} : MtR X "str.isascii" (lowM X.K mIsAscii) := mtr_weak mt_isascii fun x vs H QH ⟨dx, as, S, Q, rx, rs, so, ⟨z, ex, ea, q⟩, k⟩ => by
  subst ex ea
  obtain rfl := rel_strE rx
  cases rs
  exact ⟨z, rfl, rfl, trivial, k _ H _ S so .refl (.bl _) q⟩
def mIsPrint (x : AV) (as : List AV) (S : Store) (Q : AK) : Prop := ∃ z, x = .str z ∧ as = [] ∧ Q (.bl (Txt.isprintable z)) S
theorem m_isprintable {X : Cx} : MtR X "str.isprintable" (lowM X.K mIsPrint) := mtr_weak mt_isprintable fun x vs H QH ⟨dx, as, S, Q, rx, rs, so, ⟨z, ex, ea, q⟩, k⟩ => by
  subst ex ea
  obtain rfl := rel_strE rx
  cases rs
  exact ⟨z, rfl, rfl, trivial, k _ H _ S so .refl (.bl _) q⟩
/-- x.startswith(y), x.count(y) -/
def mStarts (x : AV) (as : List AV) (S : Store) (Q : AK) : Prop := ∃ z y, x = .str z ∧ as = [.str y] ∧ Q (.bl (Txt.startswith z y)) S
theorem m_startswith {X : Cx} : MtR X "str.startswith" (lowM X.K mStarts) := mtr_weak mt_startswith fun x vs H QH ⟨dx, as, S, Q, rx, rs, so, ⟨z, y, ex, ea, q⟩, k⟩ => by
  subst ex ea
  obtain rfl := rel_strE rx
  obtain ⟨w, rfl, rw'⟩ := rel_one rs
  obtain rfl := rel_strE rw'
  exact ⟨z, y, rfl, rfl, k _ H _ S so .refl (.bl _) q⟩
def mCountS (x : AV) (as : List AV) (S : Store) (Q : AK) : Prop := ∃ z y, x = .str z ∧ as = [.str y] ∧ Q (.int (Txt.count z y)) S
theorem m_countS {X : Cx} : MtR X "str.count" (lowM X.K mCountS) := mtr_weak mt_count fun x vs H QH ⟨dx, as, S, Q, rx, rs, so, ⟨z, y, ex, ea, q⟩, k⟩ => by
  subst ex ea
  obtain rfl := rel_strE rx
  obtain ⟨w, rfl, rw'⟩ := rel_one rs
  obtain rfl := rel_strE rw'
  exact ⟨z, y, rfl, rfl, k _ H _ S so .refl (.int _) q⟩
end L3

set_option Elab.async false
set_option linter.all false
set_option maxRecDepth 100000
set_option maxHeartbeats 2000000
/-! L4Z: zip of any two of lists and tuples: walked, as a list, as a dict. -/
namespace Zg
open PySem PySem.W PySem.Calls PyProof.Rows
open PySem.Sem (wp)
/-- an iterator over the list, the tuple at l, at place i -/
def SqI (b : Bool) (h : Heap) (it l : Addr) (i : Nat) : Prop := if b = true then h.IsListIter it l i else h.IsTupleIter it l i
def SqS (b : Bool) (h : Heap) (l : Addr) (xs : Array Value) : Prop := if b = true then h.IsList l xs else h.IsTuple l xs
section
variable {b : Bool} {h h' : Heap} {it l c : Addr} {i : Nat} {xs : Array Value}
theorem SqI.extBut (x : SqI b h it l i) (hs : Heap.ExtBut c h h') (n : it ≠ c) : SqI b h' it l i := by
  cases b
  · exact Heap.IsTupleIter.extBut (show h.IsTupleIter it l i from x) hs n
  · exact Heap.IsListIter.extBut (show h.IsListIter it l i from x) hs n
theorem SqS.extBut (x : SqS b h l xs) (hs : Heap.ExtBut c h h') (n : l ≠ c) : SqS b h' l xs := by
  cases b
  · exact Heap.IsTuple.extBut (show h.IsTuple l xs from x) hs n
  · exact Heap.IsList.extBut (show h.IsList l xs from x) hs n
theorem SqI.at (x : SqI b h it l i) (e : ∀ o, h.get? it = some o → h'.get? it = some o) : SqI b h' it l i := by
  cases b
  · obtain ⟨o, ho, r⟩ := (show h.IsTupleIter it l i from x); exact ⟨o, e _ ho, r⟩
  · obtain ⟨o, ho, r⟩ := (show h.IsListIter it l i from x); exact ⟨o, e _ ho, r⟩
theorem SqS.at (x : SqS b h l xs) (e : ∀ o, h.get? l = some o → h'.get? l = some o) : SqS b h' l xs := by
  cases b
  · obtain ⟨o, ho, r⟩ := (show h.IsTuple l xs from x); exact ⟨o, e _ ho, r⟩
  · obtain ⟨o, ho, r⟩ := (show h.IsList l xs from x); exact ⟨o, e _ ho, r⟩
theorem SqI.get (x : SqI b h it l i) : ∃ o, h.get? it = some o ∧ ∀ v, o.data ≠ .cell v := by
  cases b
  · obtain ⟨o, ho, _, d⟩ := (show h.IsTupleIter it l i from x); exact ⟨o, ho, fun v q => by rw [d] at q; cases q⟩
  · obtain ⟨o, ho, _, d⟩ := (show h.IsListIter it l i from x); exact ⟨o, ho, fun v q => by rw [d] at q; cases q⟩
theorem SqS.get (x : SqS b h l xs) : ∃ o, h.get? l = some o := by
  cases b
  · obtain ⟨o, ho, _⟩ := (show h.IsTuple l xs from x); exact ⟨o, ho⟩
  · obtain ⟨o, ho, _⟩ := (show h.IsList l xs from x); exact ⟨o, ho⟩
theorem SqS.push (x : SqS b h l xs) (o : Obj) : SqS b (h.push o) l xs := x.at fun _ e => Heap.get?_push_of_some _ e
end
section
variable {prog : Program} {w : World} {A : Around} {E : Value → Shared → Prop} {s : Shared}
theorem nextSq_item {b : Bool} {it l : Addr} {i : Nat} {items : Array Value} {x : Value} {Q : Value → Shared → Prop} (hit : SqI b s.heap it l i) (hl : SqS b s.heap l items) (hx : items[i]? = some x)
    (hQ : ∀ h', SqI b h' it l (i + 1) → Heap.SameBut it s.heap h' → Q x { s with heap := h' }) : wpAny (model prog w) A (Builtin.SmallTypes.nextOf (.ref it)) Q E s := by
  cases b
  · exact RZ.nextOf_tuple_item hit hl hx hQ
  · exact wpAny_nextOf_list_item hit hl hx hQ
theorem nextSq_end {b : Bool} {it l : Addr} {i : Nat} {items : Array Value} {Q : Value → Shared → Prop} (hh : A.handled = none) (hit : SqI b s.heap it l i) (hl : SqS b s.heap l items) (hx : items[i]? = none)
    (hE : ∀ h' e, Heap.ExtBut it s.heap h' → (∃ o, h'.get? e = some o ∧ o.cls = .type "StopIteration") → E (.ref e) { s with heap := h' }) : wpAny (model prog w) A (Builtin.SmallTypes.nextOf (.ref it)) Q E s := by
  cases b
  · exact RZ.nextOf_tuple_end hh hit hl hx hE
  · exact wpAny_nextOf_list_end hh hit hl hx hE
theorem zipG_next_item {b1 b2 : Bool} {z TI TO i1 i2 l1 l2 : Addr} {k1 k2 : Nat} {xs ys : Array Value} {x y a b : Value} {Q : Value → Shared → Prop} (D : ZipApart z TI TO i1 i2 l1 l2)
    (hz : IsZip s.heap z TI TO .none) (hTI : IsPair s.heap TI (.ref i1) (.ref i2)) (hTO : IsPair s.heap TO a b)
    (h1 : SqI b1 s.heap i1 l1 k1) (h2 : SqI b2 s.heap i2 l2 k2) (hl1 : SqS b1 s.heap l1 xs) (hl2 : SqS b2 s.heap l2 ys) (hx : xs[k1]? = some x) (hy : ys[k2]? = some y)
    (hQ : ∀ h', IsZip h' z TI TO (rawInt s.heap.objs.size) → IsPair h' TO x y → SqI b1 h' i1 l1 (k1 + 1) → SqI b2 h' i2 l2 (k2 + 1) → IsPair h' s.heap.objs.size x y → h'.objs.size = s.heap.objs.size + 1 →
      (∀ c o, c ≠ z → c ≠ TO → c ≠ i1 → c ≠ i2 → s.heap.get? c = some o → h'.get? c = some o) → Q (.ref s.heap.objs.size) { s with heap := h' }) :
    wpAny (model prog w) A (Builtin.«zip.__next__» ⟨[.ref z], []⟩) (fun fin s' => ∃ v, fin = .done (.ret v) ∧ Q v s') E s := by
  show wpAny _ _ (field (.ref z) 2 >>= _) _ _ _
  refine wpAny_bind (wpAny_field hz rfl (x := .bool false) rfl ?_)
  show wpAny _ _ (field (.ref z) 3 >>= _) _ _ _
  refine wpAny_bind (wpAny_field hz rfl (x := .ref TI) rfl ?_)
  refine wpAny_bind (wpAny_seqItems hTI rfl ?_)
  show wpAny _ _ (Builtin.SmallTypes.ownedTupleIsFree (.ref z) >>= _) _ _ _
  refine wpAny_bind ?_
  unfold Builtin.SmallTypes.ownedTupleIsFree
  refine wpAny_bind (wpAny_field hz rfl (x := .none) rfl (wpAny_pure ?_))
  simp only [if_true]
  refine wpAny_bind (wpAny_rule ?_)
  refine wpAny_bind (wpAny_field hz rfl (x := .ref TO) rfl ?_)
  refine wpAny_bind (wpAny_setField_rec hz (by simp) fun h₁ hz₁ hs₁ => ?_)
  replace hz₁ : IsZip h₁ z TI TO .ellipsis := hz₁
  refine wpAny_bind ?_
  simp only [List.zipIdx_cons, List.zipIdx_nil, List.forIn_cons, List.forIn_nil]

  refine wpAny_bind (wpAny_bind (wpAny_onRaise ?_))
  show wpAny _ _ (Builtin.SmallTypes.nextOf (.ref i1) >>= _) _ _ _
  refine wpAny_bind (nextSq_item (h1.extBut hs₁.extBut D.i1z) (hl1.extBut hs₁.extBut D.l1z) hx fun h₂ h1₂ hs₂ => wpAny_pure ?_)
  have hTO₂ : IsPair h₂ TO a b := hs₂.extBut _ _ D.TOi1 (hs₁.extBut _ _ D.TOz hTO)
  refine wpAny_bind (wpAny_seqItems hTO₂ rfl ?_)
  refine wpAny_bind (wpAny_updateSeq_pair hTO₂ fun h₃ hTO₃ hs₃ => ?_)
  replace hTO₃ : IsPair h₃ TO x b := hTO₃
  refine wpAny_bind (wpAny_letGo (wpAny_pure ?_))

  refine wpAny_bind (wpAny_bind (wpAny_onRaise ?_))
  show wpAny _ _ (Builtin.SmallTypes.nextOf (.ref i2) >>= _) _ _ _
  refine wpAny_bind (nextSq_item (((h2.extBut hs₁.extBut D.i2z).extBut hs₂.extBut D.i12.symm).extBut hs₃.extBut D.TOi2.symm)
    (((hl2.extBut hs₁.extBut D.l2z).extBut hs₂.extBut D.l2i1).extBut hs₃.extBut D.l2TO) hy fun h₄ h2₄ hs₄ => wpAny_pure ?_)
  have hTO₄ : IsPair h₄ TO x b := hs₄.extBut _ _ D.TOi2 hTO₃
  refine wpAny_bind (wpAny_seqItems hTO₄ rfl ?_)
  refine wpAny_bind (wpAny_updateSeq_pair hTO₄ fun h₅ hTO₅ hs₅ => ?_)
  replace hTO₅ : IsPair h₅ TO x y := hTO₅
  refine wpAny_bind (wpAny_letGo (wpAny_pure (wpAny_pure ?_)))

  refine wpAny_bind (wpAny_seqItems hTO₅ rfl ?_)
  refine wpAny_bind (wpAny_newTuple ?_)
  have hsz : h₅.objs.size = s.heap.objs.size := by rw [hs₅.1, hs₄.1, hs₃.1, hs₂.1, hs₁.1]
  have hz₅ : IsZip h₅ z TI TO .ellipsis := hs₅.extBut _ _ D.TOz.symm (hs₄.extBut _ _ D.i2z.symm (hs₃.extBut _ _ D.TOz.symm (hs₂.extBut _ _ D.i1z.symm hz₁)))
  have hk₅ : ∀ c o, c ≠ z → c ≠ TO → c ≠ i1 → c ≠ i2 → s.heap.get? c = some o → h₅.get? c = some o := fun c o c1 c2 c3 c4 e =>
    hs₅.extBut _ _ c2 (hs₄.extBut _ _ c4 (hs₃.extBut _ _ c2 (hs₂.extBut _ _ c3 (hs₁.extBut _ _ c1 e))))
  have h1₅ : SqI b1 h₅ i1 l1 (k1 + 1) := ((h1₂.extBut hs₃.extBut D.TOi1.symm).extBut hs₄.extBut D.i12).extBut hs₅.extBut D.TOi1.symm
  have h2₅ : SqI b2 h₅ i2 l2 (k2 + 1) := h2₄.extBut hs₅.extBut D.TOi2.symm
  have hzlt : z < h₅.objs.size := Heap.lt_size hz₅
  have hTOlt : TO < h₅.objs.size := Heap.lt_size hTO₅
  have hi1lt : i1 < h₅.objs.size := by obtain ⟨_, e, _⟩ := SqI.get h1₅; exact Heap.lt_size e
  have hi2lt : i2 < h₅.objs.size := by obtain ⟨_, e, _⟩ := SqI.get h2₅; exact Heap.lt_size e
  show wpAny _ _ (Builtin.SmallTypes.ownedTupleHandOut (.ref z) (.ref h₅.objs.size) >>= _) _ _ _
  refine wpAny_bind ?_
  unfold Builtin.SmallTypes.ownedTupleHandOut
  have hz₆ : IsZip (h₅.push { cls := .type "tuple", data := .seq #[x, y] }) z TI TO .ellipsis := Heap.get?_push_of_some _ hz₅
  refine wpAny_bind (wpAny_setField_rec hz₆ (by simp) fun h₇ hz₇ hs₇ => ?_)
  replace hz₇ : IsZip h₇ z TI TO (rawInt h₅.objs.size) := hz₇
  refine wpAny_setField_rec hz₇ (by simp) fun h₈ hz₈ hs₈ => ?_
  replace hz₈ : IsZip h₈ z TI TO (rawInt h₅.objs.size) := hz₈
  have up : ∀ c o, c ≠ z → h₅.get? c = some o → h₈.get? c = some o := fun c o c1 e => hs₈.extBut _ _ c1 (hs₇.extBut _ _ c1 (Heap.get?_push_of_some _ e))
  have hT₈ : IsPair h₈ h₅.objs.size x y := hs₈.extBut _ _ (Nat.ne_of_gt hzlt) (hs₇.extBut _ _ (Nat.ne_of_gt hzlt) (Heap.get?_push_size _ rfl))
  have hz8 : h₈.objs.size = h₅.objs.size + 1 := by rw [hs₈.1, hs₇.1, Heap.size_push]
  rw [hsz] at hz₈ hT₈ hz8
  refine wpAny_pure ⟨_, rfl, ?_⟩
  show Q (.ref h₅.objs.size) _
  rw [hsz]
  exact hQ h₈ hz₈ (up _ _ D.TOz hTO₅) (h1₅.at fun o e => up _ o D.i1z e) (h2₅.at fun o e => up _ o D.i2z e) hT₈ hz8 fun c o c1 c2 c3 c4 e => up c o c1 (hk₅ c o c1 c2 c3 c4 e)
theorem zipG_next_end {b1 b2 : Bool} {z TI TO i1 i2 l1 l2 : Addr} {k1 k2 : Nat} {xs ys : Array Value} {a b : Value} {Q : Fin → Shared → Prop} (hh : A.handled = none) (D : ZipApart z TI TO i1 i2 l1 l2)
    (hz : IsZip s.heap z TI TO .none) (hTI : IsPair s.heap TI (.ref i1) (.ref i2)) (hTO : IsPair s.heap TO a b)
    (h1 : SqI b1 s.heap i1 l1 k1) (h2 : SqI b2 s.heap i2 l2 k2) (hl1 : SqS b1 s.heap l1 xs) (hl2 : SqS b2 s.heap l2 ys) (hend : xs[k1]? = none ∨ ys[k2]? = none)
    (hE : ∀ h' e, (∀ c o, c ≠ z → c ≠ TO → c ≠ i1 → c ≠ i2 → s.heap.get? c = some o → h'.get? c = some o) → (∃ o, h'.get? e = some o ∧ o.cls = .type "StopIteration") → E (.ref e) { s with heap := h' }) :
    wpAny (model prog w) A (Builtin.«zip.__next__» ⟨[.ref z], []⟩) Q E s := by
  show wpAny _ _ (field (.ref z) 2 >>= _) _ _ _
  refine wpAny_bind (wpAny_field hz rfl (x := .bool false) rfl ?_)
  show wpAny _ _ (field (.ref z) 3 >>= _) _ _ _
  refine wpAny_bind (wpAny_field hz rfl (x := .ref TI) rfl ?_)
  refine wpAny_bind (wpAny_seqItems hTI rfl ?_)
  show wpAny _ _ (Builtin.SmallTypes.ownedTupleIsFree (.ref z) >>= _) _ _ _
  refine wpAny_bind ?_
  unfold Builtin.SmallTypes.ownedTupleIsFree
  refine wpAny_bind (wpAny_field hz rfl (x := .none) rfl (wpAny_pure ?_))
  simp only [if_true]
  refine wpAny_bind (wpAny_rule ?_)
  refine wpAny_bind (wpAny_field hz rfl (x := .ref TO) rfl ?_)
  refine wpAny_bind (wpAny_setField_rec hz (by simp) fun h₁ hz₁ hs₁ => ?_)
  replace hz₁ : IsZip h₁ z TI TO .ellipsis := hz₁
  refine wpAny_bind ?_
  simp only [List.zipIdx_cons, List.zipIdx_nil, List.forIn_cons, List.forIn_nil]
  refine wpAny_bind (wpAny_bind (wpAny_onRaise ?_))
  show wpAny _ _ (Builtin.SmallTypes.nextOf (.ref i1) >>= _) _ _ _
  cases hx : xs[k1]? with
  | none =>
    refine wpAny_bind (nextSq_end hh (h1.extBut hs₁.extBut D.i1z) (hl1.extBut hs₁.extBut D.l1z) hx fun h₂ e hs₂ he => ?_)
    obtain ⟨oe, hoe, hce⟩ := he
    have hz₂ : IsZip h₂ z TI TO .ellipsis := hs₂ _ _ D.i1z.symm hz₁
    have hez : e ≠ z := fun x => by subst x; rw [hz₂] at hoe; cases hoe; simp at hce
    refine wpAny_setField_rec hz₂ (by simp) fun h₃ _ hs₃ => hE h₃ e (fun c o c1 _ c3 _ x => hs₃.extBut _ _ c1 (hs₂ _ _ c3 (hs₁.extBut _ _ c1 x))) ⟨oe, hs₃.extBut _ _ hez hoe, hce⟩
  | some x =>
    have hy : ys[k2]? = none := by rcases hend with h | h; rw [hx] at h; cases h; exact h
    refine wpAny_bind (nextSq_item (h1.extBut hs₁.extBut D.i1z) (hl1.extBut hs₁.extBut D.l1z) hx fun h₂ h1₂ hs₂ => wpAny_pure ?_)
    have hTO₂ : IsPair h₂ TO a b := hs₂.extBut _ _ D.TOi1 (hs₁.extBut _ _ D.TOz hTO)
    refine wpAny_bind (wpAny_seqItems hTO₂ rfl ?_)
    refine wpAny_bind (wpAny_updateSeq_pair hTO₂ fun h₃ hTO₃ hs₃ => ?_)
    refine wpAny_bind (wpAny_letGo (wpAny_pure ?_))
    refine wpAny_bind (wpAny_bind (wpAny_onRaise ?_))
    show wpAny _ _ (Builtin.SmallTypes.nextOf (.ref i2) >>= _) _ _ _
    refine wpAny_bind (nextSq_end hh (((h2.extBut hs₁.extBut D.i2z).extBut hs₂.extBut D.i12.symm).extBut hs₃.extBut D.TOi2.symm)
      (((hl2.extBut hs₁.extBut D.l2z).extBut hs₂.extBut D.l2i1).extBut hs₃.extBut D.l2TO) hy fun h₄ e hs₄ he => ?_)
    obtain ⟨oe, hoe, hce⟩ := he
    have hz₄ : IsZip h₄ z TI TO .ellipsis := hs₄ _ _ D.i2z.symm (hs₃.extBut _ _ D.TOz.symm (hs₂.extBut _ _ D.i1z.symm hz₁))
    have hez : e ≠ z := fun x => by subst x; rw [hz₄] at hoe; cases hoe; simp at hce
    refine wpAny_setField_rec hz₄ (by simp) fun h₅ _ hs₅ => hE h₅ e (fun c o c1 c2 c3 c4 x => hs₅.extBut _ _ c1 (hs₄ _ _ c4 (hs₃.extBut _ _ c2 (hs₂.extBut _ _ c3 (hs₁.extBut _ _ c1 x))))) ⟨oe, hs₅.extBut _ _ hez hoe, hce⟩
theorem pyNext_zipG_item {b1 b2 : Bool} {z TI TO i1 i2 l1 l2 : Addr} {k1 k2 : Nat} {xs ys : Array Value} {x y a b : Value} {Q : Option Value → Shared → Prop} (D : ZipApart z TI TO i1 i2 l1 l2)
    (hz : IsZip s.heap z TI TO .none) (hTI : IsPair s.heap TI (.ref i1) (.ref i2)) (hTO : IsPair s.heap TO a b)
    (h1 : SqI b1 s.heap i1 l1 k1) (h2 : SqI b2 s.heap i2 l2 k2) (hl1 : SqS b1 s.heap l1 xs) (hl2 : SqS b2 s.heap l2 ys) (hx : xs[k1]? = some x) (hy : ys[k2]? = some y)
    (hQ : ∀ h', IsZip h' z TI TO (rawInt s.heap.objs.size) → IsPair h' TO x y → SqI b1 h' i1 l1 (k1 + 1) → SqI b2 h' i2 l2 (k2 + 1) → IsPair h' s.heap.objs.size x y → h'.objs.size = s.heap.objs.size + 1 →
      (∀ c o, c ≠ z → c ≠ TO → c ≠ i1 → c ≠ i2 → s.heap.get? c = some o → h'.get? c = some o) → Q (some (.ref s.heap.objs.size)) { s with heap := h' }) :
    wpAny (model prog w) A (pyNext (.ref z)) Q E s := by
  have hT : s.TypeIs (.ref z) "zip" := ⟨_, hz, rfl⟩
  unfold pyNext
  exact wpAny_bind (wpAny_attempt (wpAny_callSpecial?_slot (name := Str.ofString "__next__") hT F.slot_zip_next
    (wpAny_call_entry F.slot_zip_next hT F.entry_zip_next
      (zipG_next_item D hz hTI hTO h1 h2 hl1 hl2 hx hy fun h' a1 a2 a3 a4 a5 a6 a7 => wpAny_pure (hQ h' a1 a2 a3 a4 a5 a6 a7)) (F.args_zip_next_1 _))))
theorem pyNext_zipG_end {b1 b2 : Bool} {z TI TO i1 i2 l1 l2 : Addr} {k1 k2 : Nat} {xs ys : Array Value} {a b : Value} {Q : Option Value → Shared → Prop} (hh : A.handled = none) (D : ZipApart z TI TO i1 i2 l1 l2)
    (hz : IsZip s.heap z TI TO .none) (hTI : IsPair s.heap TI (.ref i1) (.ref i2)) (hTO : IsPair s.heap TO a b)
    (h1 : SqI b1 s.heap i1 l1 k1) (h2 : SqI b2 s.heap i2 l2 k2) (hl1 : SqS b1 s.heap l1 xs) (hl2 : SqS b2 s.heap l2 ys) (hend : xs[k1]? = none ∨ ys[k2]? = none)
    (hQ : ∀ h', (∀ c o, c ≠ z → c ≠ TO → c ≠ i1 → c ≠ i2 → s.heap.get? c = some o → h'.get? c = some o) → Q none { s with heap := h' }) : wpAny (model prog w) A (pyNext (.ref z)) Q E s := by
  have hT : s.TypeIs (.ref z) "zip" := ⟨_, hz, rfl⟩
  unfold pyNext
  refine wpAny_bind (wpAny_attempt (wpAny_callSpecial?_slot (name := Str.ofString "__next__") hT F.slot_zip_next
    (wpAny_call_entry F.slot_zip_next hT F.entry_zip_next (zipG_next_end hh D hz hTI hTO h1 h2 hl1 hl2 hend fun h' e hk he => ?_) (F.args_zip_next_1 _))))
  obtain ⟨o, ho, hc⟩ := he
  refine wpAny_bind (wpAny_isInstance (T := "StopIteration") (b := true) ⟨o, ho, hc⟩ isSubtype_stop ?_)
  exact wpAny_pure (hQ _ hk)
theorem zipG_item_held {b1 b2 : Bool} {z TI TO T i1 i2 l1 l2 : Addr} {f : Bool} {oT : Obj} {k1 k2 : Nat} {xs ys : Array Value} {x y : Value} {Q : Value → Shared → Prop} (D : ZipApart z TI TO i1 i2 l1 l2)
    (hz : IsZipHeld s.heap z TI TO T f) (hT : s.heap.get? T = some oT) (hTI : IsPair s.heap TI (.ref i1) (.ref i2))
    (h1 : SqI b1 s.heap i1 l1 k1) (h2 : SqI b2 s.heap i2 l2 k2) (hl1 : SqS b1 s.heap l1 xs) (hl2 : SqS b2 s.heap l2 ys) (hx : xs[k1]? = some x) (hy : ys[k2]? = some y)
    (hQ : ∀ h', IsZipHeld h' z TI TO T true → SqI b1 h' i1 l1 (k1 + 1) → SqI b2 h' i2 l2 (k2 + 1) → IsPair h' s.heap.objs.size x y → h'.objs.size = s.heap.objs.size + 1 →
      (∀ c o, c ≠ z → c ≠ i1 → c ≠ i2 → s.heap.get? c = some o → h'.get? c = some o) → Q (.ref s.heap.objs.size) { s with heap := h' }) :
    wpAny (model prog w) A (Builtin.«zip.__next__» ⟨[.ref z], []⟩) (fun fin s' => ∃ v, fin = .done (.ret v) ∧ Q v s') E s := by
  show wpAny _ _ (field (.ref z) 2 >>= _) _ _ _
  refine wpAny_bind (wpAny_field hz rfl (x := .bool false) rfl ?_)
  show wpAny _ _ (field (.ref z) 3 >>= _) _ _ _
  refine wpAny_bind (wpAny_field hz rfl (x := .ref TI) rfl ?_)
  refine wpAny_bind (wpAny_seqItems hTI rfl ?_)
  show wpAny _ _ (Builtin.SmallTypes.ownedTupleIsFree (.ref z) >>= _) _ _ _
  refine wpAny_bind (wpAny_tupleHeld_zip hz hT fun h₁ hz₁ hs₁ => ?_)
  simp only [Bool.false_eq_true, if_false]
  refine wpAny_bind ?_
  rw [← Array.forIn_toList]
  simp only [List.forIn_cons, List.forIn_nil]
  refine wpAny_bind (wpAny_bind (wpAny_holding ?_))
  show wpAny _ _ (Builtin.SmallTypes.nextOf (.ref i1) >>= _) _ _ _
  refine wpAny_bind (nextSq_item (s := { s with heap := h₁ }) (h1.extBut hs₁.extBut D.i1z) (hl1.extBut hs₁.extBut D.l1z) hx fun h₂ h1₂ hs₂ => wpAny_pure ?_)
  refine wpAny_pure ?_
  refine wpAny_bind (wpAny_bind (wpAny_holding ?_))
  show wpAny _ _ (Builtin.SmallTypes.nextOf (.ref i2) >>= _) _ _ _
  refine wpAny_bind (nextSq_item (s := { s with heap := h₂ }) ((h2.extBut hs₁.extBut D.i2z).extBut hs₂.extBut D.i12.symm) ((hl2.extBut hs₁.extBut D.l2z).extBut hs₂.extBut D.l2i1) hy fun h₃ h2₃ hs₃ => wpAny_pure ?_)
  refine wpAny_pure (wpAny_pure ?_)
  show wpAny _ _ (newTuple [x, y] >>= _) _ _ _
  refine wpAny_bind (wpAny_newTuple ?_)
  have hsz : h₃.objs.size = s.heap.objs.size := by rw [hs₃.1, hs₂.1, hs₁.1]
  have hz₃ : IsZipHeld h₃ z TI TO T true := hs₃.extBut _ _ D.i2z.symm (hs₂.extBut _ _ D.i1z.symm hz₁)
  have hk : ∀ c o, c ≠ z → c ≠ i1 → c ≠ i2 → s.heap.get? c = some o → h₃.get? c = some o := fun c o c1 c2 c3 e => hs₃.extBut _ _ c3 (hs₂.extBut _ _ c2 (hs₁.extBut _ _ c1 e))
  have h1₃ : SqI b1 h₃ i1 l1 (k1 + 1) := h1₂.extBut hs₃.extBut D.i12
  refine wpAny_pure ⟨_, rfl, ?_⟩
  show Q (.ref h₃.objs.size) _
  have hp : IsPair (h₃.push { cls := .type "tuple", data := .seq #[x, y] }) h₃.objs.size x y := Heap.get?_push_size _ rfl
  have hz4 : (h₃.push { cls := .type "tuple", data := .seq #[x, y] }).objs.size = h₃.objs.size + 1 := Heap.size_push ..
  rw [hsz] at hp hz4 ⊢
  exact hQ _ (Heap.get?_push_of_some _ hz₃) (h1₃.at fun o e => Heap.get?_push_of_some _ e) (h2₃.at fun o e => Heap.get?_push_of_some _ e) hp hz4 fun c o c1 c2 c3 e => Heap.get?_push_of_some _ (hk c o c1 c2 c3 e)
theorem zipG_end_held {b1 b2 : Bool} {z TI TO T i1 i2 l1 l2 : Addr} {f : Bool} {oT : Obj} {k1 k2 : Nat} {xs ys : Array Value} {Q : Fin → Shared → Prop} (hh : A.handled = none) (D : ZipApart z TI TO i1 i2 l1 l2)
    (hz : IsZipHeld s.heap z TI TO T f) (hT : s.heap.get? T = some oT) (hTI : IsPair s.heap TI (.ref i1) (.ref i2))
    (h1 : SqI b1 s.heap i1 l1 k1) (h2 : SqI b2 s.heap i2 l2 k2) (hl1 : SqS b1 s.heap l1 xs) (hl2 : SqS b2 s.heap l2 ys) (hend : xs[k1]? = none ∨ ys[k2]? = none)
    (hE : ∀ h' e, (∀ c o, c ≠ z → c ≠ i1 → c ≠ i2 → s.heap.get? c = some o → h'.get? c = some o) → (∃ o, h'.get? e = some o ∧ o.cls = .type "StopIteration") → E (.ref e) { s with heap := h' }) :
    wpAny (model prog w) A (Builtin.«zip.__next__» ⟨[.ref z], []⟩) Q E s := by
  show wpAny _ _ (field (.ref z) 2 >>= _) _ _ _
  refine wpAny_bind (wpAny_field hz rfl (x := .bool false) rfl ?_)
  show wpAny _ _ (field (.ref z) 3 >>= _) _ _ _
  refine wpAny_bind (wpAny_field hz rfl (x := .ref TI) rfl ?_)
  refine wpAny_bind (wpAny_seqItems hTI rfl ?_)
  show wpAny _ _ (Builtin.SmallTypes.ownedTupleIsFree (.ref z) >>= _) _ _ _
  refine wpAny_bind (wpAny_tupleHeld_zip hz hT fun h₁ hz₁ hs₁ => ?_)
  simp only [Bool.false_eq_true, if_false]
  refine wpAny_bind ?_
  rw [← Array.forIn_toList]
  simp only [List.forIn_cons, List.forIn_nil]
  refine wpAny_bind (wpAny_bind (wpAny_holding ?_))
  show wpAny _ _ (Builtin.SmallTypes.nextOf (.ref i1) >>= _) _ _ _
  cases hx : xs[k1]? with
  | none =>
    refine wpAny_bind (nextSq_end (s := { s with heap := h₁ }) hh (h1.extBut hs₁.extBut D.i1z) (hl1.extBut hs₁.extBut D.l1z) hx fun h₂ e hs₂ he => ?_)
    exact hE h₂ e (fun c o c1 c2 _ x => hs₂ _ _ c2 (hs₁.extBut _ _ c1 x)) he
  | some x =>
    have hy : ys[k2]? = none := by rcases hend with h | h; rw [hx] at h; cases h; exact h
    refine wpAny_bind (nextSq_item (s := { s with heap := h₁ }) (h1.extBut hs₁.extBut D.i1z) (hl1.extBut hs₁.extBut D.l1z) hx fun h₂ h1₂ hs₂ => wpAny_pure ?_)
    refine wpAny_pure ?_
    refine wpAny_bind (wpAny_bind (wpAny_holding ?_))
    show wpAny _ _ (Builtin.SmallTypes.nextOf (.ref i2) >>= _) _ _ _
    refine wpAny_bind (nextSq_end (s := { s with heap := h₂ }) hh ((h2.extBut hs₁.extBut D.i2z).extBut hs₂.extBut D.i12.symm) ((hl2.extBut hs₁.extBut D.l2z).extBut hs₂.extBut D.l2i1) hy fun h₃ e hs₃ he => ?_)
    exact hE h₃ e (fun c o c1 c2 c3 x => hs₃ _ _ c3 (hs₂.extBut _ _ c2 (hs₁.extBut _ _ c1 x))) he
theorem pyNext_zipG_item_held {b1 b2 : Bool} {z TI TO T i1 i2 l1 l2 : Addr} {f : Bool} {oT : Obj} {k1 k2 : Nat} {xs ys : Array Value} {x y : Value} {Q : Option Value → Shared → Prop} (D : ZipApart z TI TO i1 i2 l1 l2)
    (hz : IsZipHeld s.heap z TI TO T f) (hT : s.heap.get? T = some oT) (hTI : IsPair s.heap TI (.ref i1) (.ref i2))
    (h1 : SqI b1 s.heap i1 l1 k1) (h2 : SqI b2 s.heap i2 l2 k2) (hl1 : SqS b1 s.heap l1 xs) (hl2 : SqS b2 s.heap l2 ys) (hx : xs[k1]? = some x) (hy : ys[k2]? = some y)
    (hQ : ∀ h', IsZipHeld h' z TI TO T true → SqI b1 h' i1 l1 (k1 + 1) → SqI b2 h' i2 l2 (k2 + 1) → IsPair h' s.heap.objs.size x y → h'.objs.size = s.heap.objs.size + 1 →
      (∀ c o, c ≠ z → c ≠ i1 → c ≠ i2 → s.heap.get? c = some o → h'.get? c = some o) → Q (some (.ref s.heap.objs.size)) { s with heap := h' }) :
    wpAny (model prog w) A (pyNext (.ref z)) Q E s := by
  have hTy : s.TypeIs (.ref z) "zip" := ⟨_, hz, rfl⟩
  unfold pyNext
  exact wpAny_bind (wpAny_attempt (wpAny_callSpecial?_slot (name := Str.ofString "__next__") hTy F.slot_zip_next
    (wpAny_call_entry F.slot_zip_next hTy F.entry_zip_next
      (zipG_item_held D hz hT hTI h1 h2 hl1 hl2 hx hy fun h' a1 a3 a4 a5 a6 a7 => wpAny_pure (hQ h' a1 a3 a4 a5 a6 a7)) (F.args_zip_next_1 _))))
theorem pyNext_zipG_end_held {b1 b2 : Bool} {z TI TO T i1 i2 l1 l2 : Addr} {f : Bool} {oT : Obj} {k1 k2 : Nat} {xs ys : Array Value} {Q : Option Value → Shared → Prop} (hh : A.handled = none) (D : ZipApart z TI TO i1 i2 l1 l2)
    (hz : IsZipHeld s.heap z TI TO T f) (hT : s.heap.get? T = some oT) (hTI : IsPair s.heap TI (.ref i1) (.ref i2))
    (h1 : SqI b1 s.heap i1 l1 k1) (h2 : SqI b2 s.heap i2 l2 k2) (hl1 : SqS b1 s.heap l1 xs) (hl2 : SqS b2 s.heap l2 ys) (hend : xs[k1]? = none ∨ ys[k2]? = none)
    (hQ : ∀ h', (∀ c o, c ≠ z → c ≠ i1 → c ≠ i2 → s.heap.get? c = some o → h'.get? c = some o) → Q none { s with heap := h' }) : wpAny (model prog w) A (pyNext (.ref z)) Q E s := by
  have hTy : s.TypeIs (.ref z) "zip" := ⟨_, hz, rfl⟩
  unfold pyNext
  refine wpAny_bind (wpAny_attempt (wpAny_callSpecial?_slot (name := Str.ofString "__next__") hTy F.slot_zip_next
    (wpAny_call_entry F.slot_zip_next hTy F.entry_zip_next (zipG_end_held hh D hz hT hTI h1 h2 hl1 hl2 hend fun h' e hk he => ?_) (F.args_zip_next_1 _))))
  obtain ⟨o, ho, hc⟩ := he
  refine wpAny_bind (wpAny_isInstance (T := "StopIteration") (b := true) ⟨o, ho, hc⟩ isSubtype_stop ?_)
  exact wpAny_pure (hQ _ hk)
end
section
variable {prog : Program} {w : World}
theorem PairArg.zipG {b1 b2 : Bool} (z TI TO i1 i2 l1 l2 : Addr) (D : ZipApart z TI TO i1 i2 l1 l2) (xs ys : Array Value) :
    PairArg prog w "zip" z [z, TI, TO, i1, i2, l1, l2] [z, TO, i1, i2] (min xs.size ys.size) (fun i k v => xs[i]? = some k ∧ ys[i]? = some v)
      (fun h => IsZip h z TI TO .none ∧ IsPair h TI (.ref i1) (.ref i2) ∧ (∃ a b, IsPair h TO a b) ∧ SqI b1 h i1 l1 0 ∧ SqI b2 h i2 l2 0 ∧ SqS b1 h l1 xs ∧ SqS b2 h l2 ys) where
  type := fun s ok => ⟨_, ok.1, rfl⟩
  notDict := by decide
  keep := fun h h' ok hk => by
    obtain ⟨hz, hTI, ⟨a, b, hTO⟩, h1, h2, hl1, hl2⟩ := ok
    exact ⟨hk _ _ hz, hk _ _ hTI, ⟨a, b, hk _ _ hTO⟩, h1.at fun o e => hk _ o e, h2.at fun o e => hk _ o e, hl1.at fun o e => hk _ o e, hl2.at fun o e => hk _ o e⟩
  there := fun h ok b hb => by
    obtain ⟨hz, hTI, ⟨a, c, hTO⟩, q1, q2, q3, q4⟩ := ok
    obtain ⟨o1, h1, _⟩ := SqI.get q1
    obtain ⟨o2, h2, _⟩ := SqI.get q2
    obtain ⟨o3, hl1⟩ := SqS.get q3
    obtain ⟨o4, hl2⟩ := SqS.get q4
    simp only [List.mem_cons, List.not_mem_nil, or_false] at hb
    rcases hb with rfl | rfl | rfl | rfl | rfl | rfl | rfl
    all_goals first | exact ⟨_, hz⟩ | exact ⟨_, hTI⟩ | exact ⟨_, hTO⟩ | exact ⟨_, h1⟩ | exact ⟨_, h2⟩ | exact ⟨_, hl1⟩ | exact ⟨_, hl2⟩
  sub := fun b hb => by simp at hb ⊢; rcases hb with rfl | rfl | rfl | rfl <;> simp
  noKeys := fun A s Q E hA ok h => getAttrOr_miss_zip ok.1 rfl rfl rfl zip_no_keys (by decide +kernel) hA h
  iter := fun A s d Q E hA ok hd hdf h => by
    obtain ⟨hz, hTI, ⟨a, b, hTO⟩, h1, h2, hl1, hl2⟩ := ok
    simp only [List.mem_cons, List.not_mem_nil, or_false, not_or] at hdf
    obtain ⟨dz, dTI, dTO, di1, di2, dl1, dl2⟩ := hdf
    refine wpAny_pyIter_zip hz (h z [z, TO, i1, i2] (fun i h => IsPair h TI (.ref i1) (.ref i2) ∧ SqI b1 h i1 l1 i ∧ SqI b2 h i2 l2 i ∧ SqS b1 h l1 xs ∧ SqS b2 h l2 ys ∧
      ((IsZip h z TI TO .none ∧ ∃ a b, IsPair h TO a b) ∨ ∃ T f oT, IsZipHeld h z TI TO T f ∧ h.get? T = some oT ∧ T ≠ z ∧ T ≠ i1 ∧ T ≠ i2 ∧ T ≠ d)) s.heap s.toks ?_
      ⟨hTI, h1, h2, hl1, hl2, .inl ⟨hz, a, b, hTO⟩⟩ (fun _ _ e => e) fun b hb => .inl hb)
    exact {
      off := fun hm => by
        simp only [List.mem_cons, List.not_mem_nil, or_false] at hm
        rcases hm with e | e | e | e
        · exact dz e
        · exact dTO e
        · exact di1 e
        · exact di2 e
      frame := fun i h₁ h₂ st hk => by
        obtain ⟨hTI, h1, h2, hl1, hl2, hz⟩ := st
        refine ⟨hk _ _ (Ne.symm dTI) hTI, h1.at fun o e => hk _ o (Ne.symm di1) e, h2.at fun o e => hk _ o (Ne.symm di2) e, hl1.at fun o e => hk _ o (Ne.symm dl1) e, hl2.at fun o e => hk _ o (Ne.symm dl2) e, ?_⟩
        rcases hz with ⟨hz, a, b, hTO⟩ | ⟨T, f, oT, hz, hT, r1, r2, r3, r4⟩
        · exact .inl ⟨hk _ _ (Ne.symm dz) hz, a, b, hk _ _ (Ne.symm dTO) hTO⟩
        · exact .inr ⟨T, f, oT, hk _ _ (Ne.symm dz) hz, hk _ _ r4 hT, r1, r2, r3, r4⟩
      item := fun i s₁ Q₁ E₁ hi st hds hQ => by
        obtain ⟨hTI, h1, h2, hl1, hl2, hz⟩ := st
        have hix : i < xs.size := Nat.lt_of_lt_of_le hi (Nat.min_le_left ..)
        have hiy : i < ys.size := Nat.lt_of_lt_of_le hi (Nat.min_le_right ..)
        have ex := Array.getElem?_eq_getElem hix
        have ey := Array.getElem?_eq_getElem hiy
        have lt : ∀ {c o}, s₁.heap.get? c = some o → s₁.heap.objs.size ≠ c := fun e => Nat.ne_of_gt (Heap.lt_size e)
        have n1 : s₁.heap.objs.size ≠ i1 := let ⟨_, e, _⟩ := SqI.get h1; lt e
        have n2 : s₁.heap.objs.size ≠ i2 := let ⟨_, e, _⟩ := SqI.get h2; lt e
        rcases hz with ⟨hz, a, b, hTO⟩ | ⟨T, f, oT, hz, hT, r1, r2, r3, r4⟩
        · refine pyNext_zipG_item D hz hTI hTO h1 h2 hl1 hl2 ex ey fun h' a1 a2 a3 a4 a5 a6 hk => ?_
          exact hQ s₁.heap.objs.size _ _ h' s₁.toks ⟨ex, ey⟩ (.inl ⟨_, a5, rfl, _, rfl⟩)
            ⟨hk _ _ D.TIz D.TITO D.TIi1 D.TIi2 hTI, a3, a4, hl1.at fun o e => hk _ o D.l1z D.l1TO D.l1i1 D.l1i2 e, hl2.at fun o e => hk _ o D.l2z D.l2TO D.l2i1 D.l2i2 e,
              .inr ⟨s₁.heap.objs.size, false, _, a1, a5, lt hz, n1, n2, Nat.ne_of_gt hds⟩⟩
            fun c o hc e => hk c o (fun x => hc (by simp [x])) (fun x => hc (by simp [x])) (fun x => hc (by simp [x])) (fun x => hc (by simp [x])) e
        · refine pyNext_zipG_item_held D hz hT hTI h1 h2 hl1 hl2 ex ey fun h' a1 a3 a4 a5 a6 hk => ?_
          exact hQ s₁.heap.objs.size _ _ h' s₁.toks ⟨ex, ey⟩ (.inl ⟨_, a5, rfl, _, rfl⟩)
            ⟨hk _ _ D.TIz D.TIi1 D.TIi2 hTI, a3, a4, hl1.at fun o e => hk _ o D.l1z D.l1i1 D.l1i2 e, hl2.at fun o e => hk _ o D.l2z D.l2i1 D.l2i2 e,
              .inr ⟨T, true, oT, a1, hk _ _ r1 r2 r3 hT, r1, r2, r3, r4⟩⟩
            fun c o hc e => hk c o (fun x => hc (by simp [x])) (fun x => hc (by simp [x])) (fun x => hc (by simp [x])) e
      done := fun s₁ Q₁ E₁ st hQ => by
        obtain ⟨hTI, h1, h2, hl1, hl2, hz⟩ := st
        have hend : xs[min xs.size ys.size]? = none ∨ ys[min xs.size ys.size]? = none := by
          rcases Nat.le_total xs.size ys.size with h | h
          · exact .inl (Array.getElem?_eq_none (by rw [Nat.min_eq_left h]; exact Nat.le_refl _))
          · exact .inr (Array.getElem?_eq_none (by rw [Nat.min_eq_right h]; exact Nat.le_refl _))
        rcases hz with ⟨hz, a, b, hTO⟩ | ⟨T, f, oT, hz, hT, r1, r2, r3, r4⟩
        · exact pyNext_zipG_end hA D hz hTI hTO h1 h2 hl1 hl2 hend fun h' hk => hQ h' s₁.toks fun c o hc e => hk c o (fun x => hc (by simp [x])) (fun x => hc (by simp [x])) (fun x => hc (by simp [x])) (fun x => hc (by simp [x])) e
        · exact pyNext_zipG_end_held hA D hz hT hTI h1 h2 hl1 hl2 hend fun h' hk => hQ h' s₁.toks fun c o hc e => hk c o (fun x => hc (by simp [x])) (fun x => hc (by simp [x])) (fun x => hc (by simp [x])) e }
end
/-! ### the making of it -/
abbrev itO (b : Bool) (l : Addr) : Obj := if b = true then { cls := .type "list_iterator", data := .fields #[.ref l, .int 0 0] } else { cls := .type "tuple_iterator", data := .fields #[.ref l, .int 0 0] }
theorem pyIterSq {prog : Program} {w : World} {A : Around} {E : Value → Shared → Prop} {s : Shared} {b : Bool} {l : Addr} {xs : Array Value} (hl : SqS b s.heap l xs) {Q : Value → Shared → Prop} (hQ : Q (.ref s.heap.objs.size) { s with heap := s.heap.push (itO b l) }) :
    wpAny (model prog w) A (pyIter (.ref l)) Q E s := by
  cases b
  · exact wpAny_pyIter_tuple (show s.heap.IsTuple l xs from hl) hQ
  · exact wpAny_pyIter_list (show s.heap.IsList l xs from hl) hQ
abbrev zg1 (b1 : Bool) (h : Heap) (l1 : Addr) : Heap := h.push (itO b1 l1)
abbrev zg2 (b1 b2 : Bool) (h : Heap) (l1 l2 : Addr) : Heap := (zg1 b1 h l1).push (itO b2 l2)
abbrev zg3 (b1 b2 : Bool) (h : Heap) (l1 l2 : Addr) : Heap := (zg2 b1 b2 h l1 l2).push { cls := .type "tuple", data := .seq #[.ref h.objs.size, .ref (zg1 b1 h l1).objs.size] }
abbrev zg4 (b1 b2 : Bool) (h : Heap) (l1 l2 : Addr) : Heap := (zg3 b1 b2 h l1 l2).push { cls := .type "tuple", data := .seq #[.none, .none] }
abbrev zg5 (b1 b2 : Bool) (h : Heap) (l1 l2 : Addr) : Heap := (zg4 b1 b2 h l1 l2).push { cls := .type "zip", data := .fields #[.none, .bool false, .bool false, .ref (zg2 b1 b2 h l1 l2).objs.size, .ref (zg3 b1 b2 h l1 l2).objs.size] }
theorem meets_zipG (b1 b2 : Bool) (l1 l2 : Addr) (xs ys : Array Value) :
    Meets (Builtin.«zip.__new__» ⟨[.type "zip", .ref l1, .ref l2], []⟩) (fun _ R s => SqS b1 s.heap l1 xs ∧ SqS b2 s.heap l2 ys ∧
      R (.ok (.ret (.ref (zg4 b1 b2 s.heap l1 l2).objs.size))) { s with heap := zg5 b1 b2 s.heap l1 l2 }) :=
  .of_wp fun prog w A R s h => by
    obtain ⟨hp, g, d, tk, os⟩ := s; obtain ⟨hl1, hl2, h⟩ := h
    have hsub := sub_zip
    have hL1 : SqS b1 (Shared.heap ⟨hp, g, d, tk, os⟩) l1 xs := hl1
    have hL2 : SqS b2 (Shared.heap ⟨hp.push (itO b1 l1), g, d, tk, os⟩) l2 ys := SqS.push hl2 _
    wp_walk using pyIterSq hL1, pyIterSq hL2
    exact ⟨_, rfl, h⟩
section
variable {prog : Program} {w : World} {A : Around} {E : Value → Shared → Prop} {s : Shared}
theorem sqI_new {b : Bool} {h : Heap} {it l : Addr} (e : h.get? it = some (itO b l)) : SqI b h it l 0 := by
  cases b
  · exact ⟨_, e, rfl, rfl⟩
  · exact ⟨_, e, rfl, rfl⟩
theorem call_zipG {b1 b2 : Bool} {l1 l2 : Addr} {xs ys : Array Value} {Q : Value → Shared → Prop} (hl1 : SqS b1 s.heap l1 xs) (hl2 : SqS b2 s.heap l2 ys)
    (h : ∀ h', IsZip h' (s.heap.objs.size + 4) (s.heap.objs.size + 2) (s.heap.objs.size + 3) .none → IsPair h' (s.heap.objs.size + 2) (.ref s.heap.objs.size) (.ref (s.heap.objs.size + 1)) →
      IsPair h' (s.heap.objs.size + 3) .none .none → SqI b1 h' s.heap.objs.size l1 0 → SqI b2 h' (s.heap.objs.size + 1) l2 0 → h'.objs.size = s.heap.objs.size + 5 →
      (∀ c o, s.heap.get? c = some o → h'.get? c = some o) → Q (.ref (s.heap.objs.size + 4)) { s with heap := h' }) :
    wpAny (model prog w) A (call (.type "zip") [.ref l1, .ref l2]) Q E s := by
  refine callType_new F.called_zip (by decide) (F.typeCall_zip_2 _ _) (F.newCall_zip_2 _ _) (fun obj => F.args_object_init_3 obj _ _) F.entry_zip_new
    (meets_zipG b1 b2 l1 l2 xs ys) ⟨hl1, hl2, ?_⟩
  have z1 : (zg1 b1 s.heap l1).objs.size = s.heap.objs.size + 1 := Heap.size_push ..
  have z2 : (zg2 b1 b2 s.heap l1 l2).objs.size = s.heap.objs.size + 2 := by rw [Heap.size_push, z1]
  have z3 : (zg3 b1 b2 s.heap l1 l2).objs.size = s.heap.objs.size + 3 := by rw [Heap.size_push, z2]
  have z4 : (zg4 b1 b2 s.heap l1 l2).objs.size = s.heap.objs.size + 4 := by rw [Heap.size_push, z3]
  have z5 : (zg5 b1 b2 s.heap l1 l2).objs.size = s.heap.objs.size + 5 := by rw [Heap.size_push, z4]
  have nf : ∀ (b : Bool) (l : Addr), (itO b l).isFreed = false := fun b l => by cases b <;> rfl
  have g5 : (zg5 b1 b2 s.heap l1 l2).get? (zg4 b1 b2 s.heap l1 l2).objs.size = some _ := Heap.get?_push_size _ rfl
  have g4 : (zg5 b1 b2 s.heap l1 l2).get? (zg3 b1 b2 s.heap l1 l2).objs.size = some _ := Heap.get?_push_of_some _ (Heap.get?_push_size _ rfl)
  have g3 : (zg5 b1 b2 s.heap l1 l2).get? (zg2 b1 b2 s.heap l1 l2).objs.size = some _ := Heap.get?_push_of_some _ (Heap.get?_push_of_some _ (Heap.get?_push_size _ rfl))
  have g2 : (zg5 b1 b2 s.heap l1 l2).get? (zg1 b1 s.heap l1).objs.size = some _ := Heap.get?_push_of_some _ (Heap.get?_push_of_some _ (Heap.get?_push_of_some _ (Heap.get?_push_size _ (nf _ _))))
  have g1 : (zg5 b1 b2 s.heap l1 l2).get? s.heap.objs.size = some _ := Heap.get?_push_of_some _ (Heap.get?_push_of_some _ (Heap.get?_push_of_some _ (Heap.get?_push_of_some _ (Heap.get?_push_size _ (nf _ _)))))
  show _ ∧ _
  rw [z2, z3, z4] at g5
  rw [z1, z2] at g3
  rw [z3] at g4
  rw [z1] at g2
  rw [z4]
  exact ⟨⟨_, g5, rfl⟩, h _ g5 g3 g4 (sqI_new g1) (sqI_new g2) z5 fun c o x =>
    Heap.get?_push_of_some _ (Heap.get?_push_of_some _ (Heap.get?_push_of_some _ (Heap.get?_push_of_some _ (Heap.get?_push_of_some _ x))))⟩
end
end Zg
namespace Zg
open PySem PySem.W PySem.Calls PyProof.Rows PyProof.V PySem.Spec
/-! ### list(zip(..)) -/
/-- the addresses hold the pairs, in order, as tuples; they lie above lo and rise -/
structure PG (ps : List (Value × Value)) (lo : Addr) (h : Heap) (as : List Addr) : Prop where
  rise : as.Pairwise (· < ·)
  above : ∀ a ∈ as, lo < a
  pairs : ∀ (j : Nat) (a : Addr), as[j]? = some a → ∃ p, ps[j]? = some p ∧ h.get? a = some { cls := .type "tuple", data := .seq #[p.1, p.2] }
theorem PG.there {ps : List (Value × Value)} {lo : Addr} {h : Heap} {as : List Addr} (g : PG ps lo h as) {a : Addr} (ha : a ∈ as) : a < h.objs.size := by
  obtain ⟨j, hj⟩ := List.mem_iff_getElem?.mp ha
  obtain ⟨_, _, e⟩ := g.pairs j a hj
  exact Heap.lt_size e
/-- the zip at place i -/
structure ZSt (b1 b2 : Bool) (xs ys : Array Value) (z TI TO i1 i2 l1 l2 S : Addr) (i : Nat) (h : Heap) : Prop where
  ti : IsPair h TI (.ref i1) (.ref i2)
  h1 : SqI b1 h i1 l1 i
  h2 : SqI b2 h i2 l2 i
  q1 : SqS b1 h l1 xs
  q2 : SqS b2 h l2 ys
  st : (IsZip h z TI TO .none ∧ ∃ a b, IsPair h TO a b) ∨ ∃ T f oT, IsZipHeld h z TI TO T f ∧ h.get? T = some oT ∧ T ≠ z ∧ T ≠ i1 ∧ T ≠ i2 ∧ T ≠ S
theorem ZSt.keep {b1 b2 : Bool} {xs ys : Array Value} {z TI TO i1 i2 l1 l2 S : Addr} {i : Nat} {h h' : Heap} (x : ZSt b1 b2 xs ys z TI TO i1 i2 l1 l2 S i h) (hk : ∀ b o, b ≠ S → h.get? b = some o → h'.get? b = some o)
    (n : z ≠ S ∧ TI ≠ S ∧ TO ≠ S ∧ i1 ≠ S ∧ i2 ≠ S ∧ l1 ≠ S ∧ l2 ≠ S) : ZSt b1 b2 xs ys z TI TO i1 i2 l1 l2 S i h' := by
  obtain ⟨nz, nti, nto, n1, n2, m1, m2⟩ := n
  refine ⟨hk _ _ nti x.ti, x.h1.at fun o e => hk _ o n1 e, x.h2.at fun o e => hk _ o n2 e, x.q1.at fun o e => hk _ o m1 e, x.q2.at fun o e => hk _ o m2 e, ?_⟩
  rcases x.st with ⟨hz, a, b, hTO⟩ | ⟨T, f, oT, hz, hT, r1, r2, r3, r4⟩
  · exact .inl ⟨hk _ _ nz hz, a, b, hk _ _ nto hTO⟩
  · exact .inr ⟨T, f, oT, hk _ _ nz hz, hk _ _ r4 hT, r1, r2, r3, r4⟩
section
variable {prog : Program} {w : World} {A : Around} {E : Value → Shared → Prop} {s : Shared} {b1 b2 : Bool} {xs ys : Array Value} {z TI TO i1 i2 l1 l2 S : Addr} {i : Nat}
theorem zst_item (D : ZipApart z TI TO i1 i2 l1 l2) (x : ZSt b1 b2 xs ys z TI TO i1 i2 l1 l2 S i s.heap) (hS : S < s.heap.objs.size) {u v : Value} (eu : xs[i]? = some u) (ev : ys[i]? = some v) {Q : Option Value → Shared → Prop}
    (hQ : ∀ h', ZSt b1 b2 xs ys z TI TO i1 i2 l1 l2 S (i + 1) h' → h'.get? s.heap.objs.size = some { cls := .type "tuple", data := .seq #[u, v] } → h'.objs.size = s.heap.objs.size + 1 →
      (∀ b o, b ≠ z → b ≠ TO → b ≠ i1 → b ≠ i2 → s.heap.get? b = some o → h'.get? b = some o) → Q (some (.ref s.heap.objs.size)) { s with heap := h' }) :
    wpAny (model prog w) A (pyNext (.ref z)) Q E s := by
  have lt : ∀ {c o}, s.heap.get? c = some o → s.heap.objs.size ≠ c := fun e => Nat.ne_of_gt (Heap.lt_size e)
  have n1 : s.heap.objs.size ≠ i1 := let ⟨_, e, _⟩ := SqI.get x.h1; lt e
  have n2 : s.heap.objs.size ≠ i2 := let ⟨_, e, _⟩ := SqI.get x.h2; lt e
  rcases x.st with ⟨hz, a, b, hTO⟩ | ⟨T, f, oT, hz, hT, r1, r2, r3, r4⟩
  · refine pyNext_zipG_item D hz x.ti hTO x.h1 x.h2 x.q1 x.q2 eu ev fun h' a1 a2 a3 a4 a5 a6 hk => hQ h' ⟨hk _ _ D.TIz D.TITO D.TIi1 D.TIi2 x.ti, a3, a4, x.q1.at fun o e => hk _ o D.l1z D.l1TO D.l1i1 D.l1i2 e, x.q2.at fun o e => hk _ o D.l2z D.l2TO D.l2i1 D.l2i2 e,
      .inr ⟨s.heap.objs.size, false, _, a1, a5, lt hz, n1, n2, Nat.ne_of_gt hS⟩⟩ a5 a6 hk
  · refine pyNext_zipG_item_held D hz hT x.ti x.h1 x.h2 x.q1 x.q2 eu ev fun h' a1 a3 a4 a5 a6 hk => hQ h' ⟨hk _ _ D.TIz D.TIi1 D.TIi2 x.ti, a3, a4, x.q1.at fun o e => hk _ o D.l1z D.l1i1 D.l1i2 e, x.q2.at fun o e => hk _ o D.l2z D.l2i1 D.l2i2 e,
      .inr ⟨T, true, oT, a1, hk _ _ r1 r2 r3 hT, r1, r2, r3, r4⟩⟩ a5 a6 fun b o c1 _ c3 c4 e => hk b o c1 c3 c4 e
theorem zst_done (hh : A.handled = none) (D : ZipApart z TI TO i1 i2 l1 l2) (x : ZSt b1 b2 xs ys z TI TO i1 i2 l1 l2 S i s.heap) (hend : xs[i]? = none ∨ ys[i]? = none) {Q : Option Value → Shared → Prop}
    (hQ : ∀ h', (∀ b o, b ≠ z → b ≠ TO → b ≠ i1 → b ≠ i2 → s.heap.get? b = some o → h'.get? b = some o) → Q none { s with heap := h' }) : wpAny (model prog w) A (pyNext (.ref z)) Q E s := by
  rcases x.st with ⟨hz, a, b, hTO⟩ | ⟨T, f, oT, hz, hT, r1, r2, r3, r4⟩
  · exact pyNext_zipG_end hh D hz x.ti hTO x.h1 x.h2 x.q1 x.q2 hend hQ
  · exact pyNext_zipG_end_held hh D hz hT x.ti x.h1 x.h2 x.q1 x.q2 hend fun h' hk => hQ h' fun b o c1 _ c3 c4 e => hk b o c1 c3 c4 e
end
section
variable {prog : Program} {w : World} {A : Around} {s : Shared} {R : Result → Shared → Prop} {b1 b2 : Bool} {xs ys : Array Value} {z TI TO i1 i2 l1 l2 S : Addr}
theorem zip_get {us vs : List Value} {i : Nat} : (us.zip vs)[i]? = (match us[i]?, vs[i]? with | some u, some v => some (u, v) | _, _ => none) := by
  induction us generalizing vs i with
  | nil => simp
  | cons a us ih =>
    cases vs with
    | nil => cases h : (a :: us)[i]? <;> simp
    | cons b vs =>
      cases i with
      | zero => simp
      | succ i => simpa using ih
theorem zg_loop (hh : A.handled = none) (D : ZipApart z TI TO i1 i2 l1 l2) (N : z ≠ S ∧ TI ≠ S ∧ TO ≠ S ∧ i1 ≠ S ∧ i2 ≠ S ∧ l1 ≠ S ∧ l2 ≠ S) (lo : Addr) (hlo : z ≤ lo ∧ TO ≤ lo ∧ i1 ≤ lo ∧ i2 ≤ lo ∧ S ≤ lo) (hn : (xs.toList.zip ys.toList).length ≤ sizeLine) (res : Value) {h₁ : Heap}
    (hR : ∀ h' tk acc c as, (∀ b o, b ≠ S → b ≠ z → b ≠ TO → b ≠ i1 → b ≠ i2 → h₁.get? b = some o → h'.get? b = some o) → h'.get? S = some { cls := .type "list", dict := none, data := .seq acc c, slots := #[] } → as.length = (xs.toList.zip ys.toList).length → PG (xs.toList.zip ys.toList) lo h' as →
      acc.toList = as.map Value.ref → R (.ok (.ret res)) { s with heap := h', toks := tk }) :
    ∀ (k i : Nat) (h : Heap) (tk c : Nat) (acc : Array Value) (as : List Addr), (xs.toList.zip ys.toList).length - i = k → i ≤ (xs.toList.zip ys.toList).length → ZSt b1 b2 xs ys z TI TO i1 i2 l1 l2 S i h →
      (∀ b o, b ≠ S → b ≠ z → b ≠ TO → b ≠ i1 → b ≠ i2 → h₁.get? b = some o → h.get? b = some o) →
      h.get? S = some { cls := .type "list", dict := none, data := .seq acc c, slots := #[] } → acc.toList = as.map Value.ref → as.length = i → PG (xs.toList.zip ys.toList) lo h as → lo < h.objs.size →
      codeAny (model prog w) A (.builtin "list.extend.loop" ⟨[.ref S, .ref z, res], []⟩) R { s with heap := h, toks := tk } := by
  obtain ⟨nz, nti, nto, n1, n2, m1, m2⟩ := id N
  obtain ⟨g1, g2, g3, g4, g5⟩ := hlo
  intro k
  induction k with
  | zero =>
    intro i h tk c acc as hk hi hst hkeep hS hacc hal hG hIs
    have hin : i = (xs.toList.zip ys.toList).length := by omega
    have hend : xs[i]? = none ∨ ys[i]? = none := by
      have e : (xs.toList.zip ys.toList)[i]? = none := List.getElem?_eq_none (by omega)
      rw [zip_get, Array.getElem?_toList, Array.getElem?_toList] at e
      cases h1 : xs[i]? with
      | none => exact .inl rfl
      | some u => cases h2 : ys[i]? with
        | none => exact .inr rfl
        | some v => rw [h1, h2] at e; cases e
    refine codeAny_builtin PySem.F.entry_extend_loop ?_
    rw [Around.under_plainId PySem.F.plain_extend_loop _]
    show wpAny _ A.in1 (pyNext (.ref z) >>= _) _ _ _
    refine wpAny_bind (zst_done (s := { s with heap := h, toks := tk }) (A := A.in1) hh D hst hend fun h' he => ?_)
    refine wpAny_pure (hR h' tk acc c as (fun b o h1 h2 h3 h4 h5 e => he b o h2 h3 h4 h5 (hkeep b o h1 h2 h3 h4 h5 e)) (he S _ nz.symm nto.symm n1.symm n2.symm hS) (by omega) ⟨hG.rise, hG.above, fun j a hj => ?_⟩ hacc)
    obtain ⟨p, hp, e3⟩ := hG.pairs j a hj
    have ha := hG.above a (List.mem_of_getElem? hj)
    have ne : ∀ {x}, x ≤ lo → a ≠ x := fun h => Nat.ne_of_gt (Nat.lt_of_le_of_lt h ha)
    exact ⟨p, hp, he a _ (ne g1) (ne g2) (ne g3) (ne g4) e3⟩
  | succ k ih =>
    intro i h tk c acc as hk hi hst hkeep hS hacc hal hG hIs
    have hlt : i < (xs.toList.zip ys.toList).length := by omega
    have hsz : acc.size = i := by rw [← Array.length_toList, hacc, List.length_map, hal]
    obtain ⟨⟨u, v⟩, ep⟩ : ∃ p, (xs.toList.zip ys.toList)[i]? = some p := ⟨_, List.getElem?_eq_getElem hlt⟩
    have euv : xs[i]? = some u ∧ ys[i]? = some v := by
      have e := ep
      rw [zip_get, Array.getElem?_toList, Array.getElem?_toList] at e
      cases h1 : xs[i]? with
      | none => rw [h1] at e; cases e
      | some u' => cases h2 : ys[i]? with
        | none => rw [h1, h2] at e; cases e
        | some v' => rw [h1, h2] at e; cases e; exact ⟨rfl, rfl⟩
    refine codeAny_builtin PySem.F.entry_extend_loop ?_
    rw [Around.under_plainId PySem.F.plain_extend_loop _]
    show wpAny _ A.in1 (pyNext (.ref z) >>= _) _ _ _
    refine wpAny_bind (zst_item (s := { s with heap := h, toks := tk }) (S := S) D hst (Heap.lt_size hS) euv.1 euv.2 fun h' hst' ht hz hkp => ?_)
    dsimp only at ht hz hkp ⊢
    have hS' := hkp S _ nz.symm nto.symm n1.symm n2.symm hS
    have up : ∀ b o, b ≠ S → h'.get? b = some o → (h'.update S (Obj.mapSeq (·.push (Value.ref h.objs.size)))).get? b = some o := fun b o hb e => (Heap.get?_update_other _ _ (Ne.symm hb)).trans e
    have hSl : S < h.objs.size := Heap.lt_size hS
    show wpAny _ A.in1 (updateSeq S (·.push (Value.ref h.objs.size)) >>= _) _ _ _
    refine wpAny_bind ?_
    refine wpAny_updateSeq hS' rfl (wpAny_pure ⟨plainId_quiet PySem.F.plain_extend_loop _, ih (i + 1) _ tk _ (acc.push (Value.ref h.objs.size)) (as ++ [h.objs.size]) (by omega) hlt (hst'.keep up N)
      (fun b o h1 h2 h3 h4 h5 e => up b o h1 (hkp b o h2 h3 h4 h5 (hkeep b o h1 h2 h3 h4 h5 e))) (Heap.get?_update_self _ hS' rfl) (by rw [Array.toList_push, hacc, List.map_append]; rfl) (by rw [List.length_append, hal]; rfl) ⟨?_, ?_, ?_⟩ ?_⟩) (by rw [hsz]; omega) (by show (acc.push (Value.ref h.objs.size)).size ≤ sizeLine + 1; rw [Array.size_push, hsz]; omega)
    · refine List.pairwise_append.mpr ⟨hG.rise, List.pairwise_singleton _ _, fun a ha b hb => ?_⟩
      rw [List.mem_singleton.mp hb]
      exact hG.there ha
    · intro a ha
      rcases List.mem_append.mp ha with ha | ha
      · exact hG.above a ha
      · rw [List.mem_singleton.mp ha]; exact hIs
    · intro j b hj
      rcases Nat.lt_trichotomy j as.length with h1 | h1 | h1
      · rw [List.getElem?_append_left h1] at hj
        obtain ⟨p, hp, e3⟩ := hG.pairs j b hj
        have hb := hG.above b (List.mem_of_getElem? hj)
        have ne : ∀ {x}, x ≤ lo → b ≠ x := fun h => Nat.ne_of_gt (Nat.lt_of_le_of_lt h hb)
        exact ⟨p, hp, up b _ (ne g5) (hkp b _ (ne g1) (ne g2) (ne g3) (ne g4) e3)⟩
      · subst h1
        have hb : h.objs.size = b := by simpa using hj
        subst hb
        exact ⟨(u, v), by subst hal; exact ep, up _ _ (Nat.ne_of_gt hSl) ht⟩
      · have hnone : (as ++ [h.objs.size])[j]? = none := List.getElem?_eq_none (by rw [List.length_append, List.length_singleton]; omega)
        rw [hnone] at hj; cases hj
    · have e : (h'.update S (Obj.mapSeq (·.push (Value.ref h.objs.size)))).get? h.objs.size = _ := up _ _ (Nat.ne_of_gt hSl) ht
      exact Nat.lt_trans hIs (Heap.lt_size e)
end
end Zg
namespace Zg
open PySem PySem.W PySem.Calls PyProof.Rows PyProof.V PySem.Spec
theorem zip_no_len : typeLookup (.type "zip") "__len__" = pure none := am_miss_of_fast (by decide +kernel)
theorem zip_no_hint : typeLookup (.type "zip") "__length_hint__" = pure none := am_miss_of_fast (by decide +kernel)
section
variable {prog : Program} {w : World} {A : Around} {E : Value → Shared → Prop} {s : Shared} {b1 b2 : Bool} {xs ys : Array Value} {z TI TO i1 i2 l1 l2 : Addr}
theorem zg_hint {r : Addr} (hT : s.TypeIs (.ref r) "zip") {Q : Bool → Shared → Prop} (h : Q true s) : wpAny (model prog w) A (Builtin.List.listLengthHint (.ref r)) Q E s := by
  unfold Builtin.List.listLengthHint
  refine wpAny_bind (wpAny_specialOf hT zip_no_len ?_)
  refine wpAny_ite_split (fun hab => absurd hab (by decide)) (fun _ => ?_)
  refine wpAny_ite_split (fun hab => absurd hab (by decide)) (fun _ => ?_)
  refine wpAny_bind (wpAny_specialOf hT zip_no_hint ?_)
  exact wpAny_pure h
theorem ZSt.start {S : Addr} {h : Heap} (hz : IsZip h z TI TO .none) (hTI : IsPair h TI (.ref i1) (.ref i2)) (hTO : ∃ a b, IsPair h TO a b) (h1 : SqI b1 h i1 l1 0) (h2 : SqI b2 h i2 l2 0) (q1 : SqS b1 h l1 xs) (q2 : SqS b2 h l2 ys) :
    ZSt b1 b2 xs ys z TI TO i1 i2 l1 l2 S 0 h := ⟨hTI, h1, h2, q1, q2, .inl ⟨hz, hTO⟩⟩
/-- list(z), z a zip that nobody has begun -/
theorem zg_call {Q : Value → Shared → Prop} (hh : A.handled = none) (D : ZipApart z TI TO i1 i2 l1 l2) (hz : IsZip s.heap z TI TO .none) (hTI : IsPair s.heap TI (.ref i1) (.ref i2)) (hTO : ∃ a b, IsPair s.heap TO a b)
    (h1 : SqI b1 s.heap i1 l1 0) (h2 : SqI b2 s.heap i2 l2 0) (q1 : SqS b1 s.heap l1 xs) (q2 : SqS b2 s.heap l2 ys) (hn : (xs.toList.zip ys.toList).length ≤ sizeLine)
    (hQ : ∀ h' tk acc c as, (∀ b o, b ≠ z → b ≠ TO → b ≠ i1 → b ≠ i2 → s.heap.get? b = some o → h'.get? b = some o) → h'.get? s.heap.objs.size = some { cls := .type "list", dict := none, data := .seq acc c, slots := #[] } → as.length = (xs.toList.zip ys.toList).length → PG (xs.toList.zip ys.toList) s.heap.objs.size h' as →
      acc.toList = as.map Value.ref → Q (.ref s.heap.objs.size) { s with heap := h', toks := tk }) :
    wpAny (model prog w) A (call (.type "list") [.ref z]) Q E s := by
  refine callType_codes (Q₁ := fun obj s₁ => obj = .ref s.heap.objs.size ∧ s₁ = { s with heap := s.heap.push { cls := .type "list", data := .seq #[] } }) PySem.F.called_list (PySem.F.typeCall_list_1 _) PySem.F.entry_list_init
    (code_list_new _ ⟨rfl, rfl⟩) fun obj s₁ h₁ => ?_
  obtain ⟨rfl, rfl⟩ := h₁
  have hS : (s.heap.push { cls := .type "list", data := .seq #[] }).get? s.heap.objs.size = some { cls := .type "list", data := .seq #[] } := Heap.get?_push_size _ rfl
  have lt : ∀ {b o}, s.heap.get? b = some o → b < s.heap.objs.size := fun e => Heap.lt_size e
  have lz := lt hz
  have lTI := lt hTI
  have lTO : TO < s.heap.objs.size := let ⟨_, _, e⟩ := hTO; lt e
  have li1 : i1 < s.heap.objs.size := let ⟨_, e, _⟩ := SqI.get h1; lt e
  have li2 : i2 < s.heap.objs.size := let ⟨_, e, _⟩ := SqI.get h2; lt e
  have ll1 : l1 < s.heap.objs.size := let ⟨_, e⟩ := SqS.get q1; lt e
  have ll2 : l2 < s.heap.objs.size := let ⟨_, e⟩ := SqS.get q2; lt e
  have N : z ≠ s.heap.objs.size ∧ TI ≠ s.heap.objs.size ∧ TO ≠ s.heap.objs.size ∧ i1 ≠ s.heap.objs.size ∧ i2 ≠ s.heap.objs.size ∧ l1 ≠ s.heap.objs.size ∧ l2 ≠ s.heap.objs.size :=
    ⟨Nat.ne_of_lt lz, Nat.ne_of_lt lTI, Nat.ne_of_lt lTO, Nat.ne_of_lt li1, Nat.ne_of_lt li2, Nat.ne_of_lt ll1, Nat.ne_of_lt ll2⟩
  have key : ∀ (R : Result → Shared → Prop) (h : Heap) (c₁ tk : Nat), (∀ h' tk acc c as, (∀ b o, b ≠ z → b ≠ TO → b ≠ i1 → b ≠ i2 → s.heap.get? b = some o → h'.get? b = some o) → h'.get? s.heap.objs.size = some { cls := .type "list", dict := none, data := .seq acc c, slots := #[] } → as.length = (xs.toList.zip ys.toList).length →
      PG (xs.toList.zip ys.toList) s.heap.objs.size h' as → acc.toList = as.map Value.ref → R (.ok (.ret .none)) { s with heap := h', toks := tk }) → (∀ b o, b ≠ s.heap.objs.size → s.heap.get? b = some o → h.get? b = some o) →
      h.get? s.heap.objs.size = some { cls := .type "list", data := .seq #[] c₁ } → codeAny (model prog w) A.in1 (.builtin "list.extend.loop" ⟨[.ref s.heap.objs.size, .ref z, .none], []⟩) R { s with heap := h, toks := tk } := by
    intro R h c₁ tk hR hk hS₁
    have kk : ∀ b o, s.heap.get? b = some o → h.get? b = some o := fun b o e => hk b o (Nat.ne_of_lt (lt e)) e
    have st : ZSt b1 b2 xs ys z TI TO i1 i2 l1 l2 s.heap.objs.size 0 h := .start (kk _ _ hz) (kk _ _ hTI) (let ⟨a, b, e⟩ := hTO; ⟨a, b, kk _ _ e⟩) (h1.at fun o e => kk _ o e) (h2.at fun o e => kk _ o e) (q1.at fun o e => kk _ o e) (q2.at fun o e => kk _ o e)
    exact zg_loop (A := A.in1) (s := s) (h₁ := s.heap) (b1 := b1) (b2 := b2) hh D N s.heap.objs.size ⟨Nat.le_of_lt lz, Nat.le_of_lt lTO, Nat.le_of_lt li1, Nat.le_of_lt li2, Nat.le_refl _⟩ hn .none
      (fun h' tk' acc c as hk' hS' hl hG hacc => hR h' tk' acc c as (fun b o n1 n2 n3 n4 e => hk' b o (Nat.ne_of_lt (lt e)) n1 n2 n3 n4 e) hS' hl hG hacc) _ 0 h tk c₁ #[] [] (Nat.sub_zero _) (Nat.zero_le _) st (fun b o _ _ _ _ _ e => kk b o e) hS₁ rfl rfl
      ⟨List.Pairwise.nil, (fun _ ha => nomatch ha), (fun j a hj => by simp at hj)⟩ (Heap.lt_size hS₁)
  refine ⟨⟨_, hS, rfl⟩, PySem.F.args_list_init_2 _ _, ?_⟩
  show wpAny _ _ (do let old ← Builtin.List.listItems (.ref s.heap.objs.size); Builtin.List.listUpdate (.ref s.heap.objs.size) (fun _ => #[]); letGo old.toList.reverse; Builtin.List.listExtendWith (.ref s.heap.objs.size) (.ref z) .none) _ _ _
  refine wpAny_bind ?_
  unfold Builtin.List.listItems
  refine wpAny_bind (wpAny_seqItems hS rfl (wpAny_pure ?_))
  show wpAny _ _ (updateSeq s.heap.objs.size (fun _ => #[]) >>= fun _ => letGo (#[] : Array Value).toList.reverse >>= fun _ => Builtin.List.listExtendWith (.ref s.heap.objs.size) (.ref z) .none) _ _ _
  refine wpAny_bind (wpAny_updateSeq hS rfl ?_)
  have hS₂ := Heap.get?_update_self (Obj.mapSeq (fun _ => (#[] : Array Value))) hS rfl
  have oth : ∀ b o, b ≠ s.heap.objs.size → s.heap.get? b = some o → ((s.heap.push { cls := .type "list", data := .seq #[] }).update s.heap.objs.size (Obj.mapSeq (fun _ => (#[] : Array Value)))).get? b = some o :=
    fun b o hb e => (Heap.get?_update_other _ _ (Ne.symm hb)).trans (Heap.get?_push_of_some _ e)
  refine wpAny_bind (wpAny_letGo ?_)
  unfold Builtin.List.listExtendWith
  have hz₂ := oth z _ (Nat.ne_of_lt lz) hz
  refine wpAny_bind (wpAny_typeOf (T := "zip") ⟨_, hz₂, rfl⟩ ?_)
  have e1 : Builtin.List.listSameRef (.ref s.heap.objs.size) (.ref z) = false := by simp [Builtin.List.listSameRef, Nat.ne_of_gt lz]
  have e2 : (Value.type "zip" == Value.type "list") = false := by decide
  have e3 : (Value.type "zip" == Value.type "tuple") = false := by decide
  simp only [e1, e2, e3, Bool.or_false, Bool.false_eq_true, if_false]
  refine wpAny_bind (wpAny_pyIter_zip hz₂ ?_)
  refine wpAny_bind (wpAny_holding (zg_hint ⟨_, hz₂, rfl⟩ ?_))
  refine wpAny_ite_split (fun _ => ?_) (fun _ => wpAny_pure ⟨plainId_quiet PySem.F.plain_extend_loop _, key _ _ _ _ (fun h' tk acc c as k1 k2 k3 k4 k5 => ⟨rfl, hQ h' tk acc c as k1 k2 k3 k4 k5⟩) oth hS₂⟩)
  refine wpAny_bind (wpAny_rule ?_)
  refine wpAny_bind ?_
  show wpAny _ _ (updateSeq s.heap.objs.size (·.push .none) >>= fun _ => updateSeq s.heap.objs.size (·.pop)) _ _ _
  refine wpAny_bind (wpAny_updateSeq hS₂ rfl ?_)
  have hS₃ := Heap.get?_update_self (Obj.mapSeq (·.push Value.none)) hS₂ rfl
  refine wpAny_updateSeq (hz := by seq_fits) hS₃ rfl ?_
  have hS₄ := Heap.get?_update_self (Obj.mapSeq (·.pop)) hS₃ rfl
  refine wpAny_pure ⟨plainId_quiet PySem.F.plain_extend_loop _, key _ _ _ _ (fun h' tk acc c as k1 k2 k3 k4 k5 => ⟨rfl, hQ h' tk acc c as k1 k2 k3 k4 k5⟩) (fun b o hb e => ?_) hS₄⟩
  exact (Heap.get?_update_other _ _ (Ne.symm hb)).trans ((Heap.get?_update_other _ _ (Ne.symm hb)).trans (oth b o hb e))
end
end Zg

set_option Elab.async false
set_option linter.all false
set_option maxRecDepth 100000
set_option maxHeartbeats 2000000
set_option autoImplicit false
/-! L4B: zip walked, list(zip(..)), dict(zip(..)), dict(pairs); tuple * int; text.replace(A, B) of the top's texts. -/
namespace L3
open PySem L2 PyProof.Rows
namespace Zr
open Zg PySem.W
variable {X : Cx} {pins : List (Addr × Obj)} {σ : L2.St} {H : Hp} {s : Shared}
def SqB (b : Bool) (K : PySem.W.Frag) (H : Hp) (a : Addr) (xs : List V) : Prop := if b = true then SqL K H a xs else SqT K H a xs
theorem sq_of (I : Inv X pins σ H s) {b : Bool} {a : Addr} {xs : List V} (h : SqB b X.K H a xs) : ∃ its : List Value, Vals xs its ∧ SqS b s.heap a its.toArray ∧ xs.length ≤ sizeLine := by
  cases b
  · obtain ⟨its, rv, ⟨o, e, c, n, d⟩, z⟩ := I.tuple (show SqT X.K H a xs from h)
    exact ⟨its, rv, ⟨o, e, c, n, d⟩, z⟩
  · obtain ⟨its, rv, p, z⟩ := I.list (show SqL X.K H a xs from h)
    exact ⟨its, rv, p.isList, z⟩
theorem sq_inj (I : Inv X pins σ H s) {b : Bool} {a : Addr} {xs ys : List V} (h : SqB b X.K H a xs) (h' : SqB b X.K H a ys) : xs = ys := by
  cases b
  · exact I.tuple_inj (show SqT X.K H a xs from h) h'
  · exact I.list_inj (show SqL X.K H a xs from h) h'
def ItzG (b1 b2 : Bool) (K : PySem.W.Frag) (a b : Addr) : It :=
  ⟨fun i H => ∃ (xs ys : List V) (x y : V), SqB b1 K H a xs ∧ SqB b2 K H b ys ∧ xs[i]? = some x ∧ ys[i]? = some y,
    fun i H v H' => ∃ T x y, v = .ref T ∧ H T = none ∧ H' = upd H T (.tup [x, y]) ∧ (∀ xs, SqB b1 K H a xs → xs[i]? = some x) ∧ ∀ ys, SqB b2 K H b ys → ys[i]? = some y,
    fun i H => ∃ xs ys : List V, SqB b1 K H a xs ∧ SqB b2 K H b ys ∧ (xs.length ≤ i ∨ ys.length ≤ i)⟩
theorem turn_zipG {P : Program} {w : World} {K : PySem.W.Frag} {elts : List Expr} {kk : Nat} {tpos : Pos} {b1 b2 : Bool} {a b z TI TO i1 i2 : Addr} (D : ZipApart z TI TO i1 i2 a b) :
    Turn P w K (.Tuple elts kk tpos) (ItzG b1 b2 K a b) [z, TI, TO, i1, i2] z (fun i h => IsZip h z TI TO .none ∧ IsPair h TI (.ref i1) (.ref i2) ∧ (∃ x y, IsPair h TO x y) ∧ SqI b1 h i1 a i ∧ SqI b2 h i2 b i) where
  mem := by simp
  obj := fun i h st c hc => by
    obtain ⟨hz, hTI, ⟨x, y, hTO⟩, q1, q2⟩ := st
    obtain ⟨o1, e1, d1⟩ := SqI.get q1
    obtain ⟨o2, e2, d2⟩ := SqI.get q2
    have e' : c = z ∨ c = TI ∨ c = TO ∨ c = i1 ∨ c = i2 := by simpa using hc
    rcases e' with q | q | q | q | q
    · rw [q]; exact ⟨_, hz, fun v q => nomatch q⟩
    · rw [q]; exact ⟨_, hTI, fun v q => nomatch q⟩
    · rw [q]; exact ⟨_, hTO, fun v q => nomatch q⟩
    · rw [q]; exact ⟨o1, e1, d1⟩
    · rw [q]; exact ⟨o2, e2, d2⟩
  keep := fun i h h' st k => by
    obtain ⟨hz, hTI, ⟨x, y, hTO⟩, h1, h2⟩ := st
    exact ⟨k z (by simp) _ hz, k TI (by simp) _ hTI, ⟨x, y, k TO (by simp) _ hTO⟩, h1.at fun o q => k i1 (by simp) o q, h2.at fun o q => k i2 (by simp) o q⟩
  item := by
    intro X hP hw hK hc i pins s σ H E I hf st hg
    subst hP hw hK
    obtain ⟨hz, hTI, ⟨x0, y0, hTO⟩, h1, h2⟩ := st
    obtain ⟨xs, ys, x, y, hqx, hqy, hx, hy⟩ := hg
    obtain ⟨its, rv, p, _⟩ := sq_of I hqx
    obtain ⟨its2, rv2, p2, _⟩ := sq_of I hqy
    obtain ⟨u, hu, ru⟩ := rv.get hx
    obtain ⟨u2, hu2, ru2⟩ := rv2.get hy
    have hzl : z < s.heap.objs.size := Heap.lt_size hz
    refine pyNext_zipG_item D hz hTI hTO h1 h2 p p2 (x := u) (y := u2) (by simpa using hu) (by simpa using hu2) fun h' z' TO' h1' h2' hT hsz hk => ?_
    refine ⟨_, rfl, wpAny_letOwnedTupleGo_zip (s := { s with heap := h' }) z' fun h'' z'' sb => ?_⟩
    have hT2 : h''.get? s.heap.objs.size = some { cls := .type "tuple", data := .seq #[u, u2] } := (sb.2 _ (Nat.ne_of_gt hzl)).trans hT
    have new : ObjOk X.prog X.w (upd H s.heap.objs.size (.tup [x, y])) h'' s.heap.objs.size (.tup [x, y]) :=
      ⟨by show 2 ≤ sizeLine; decide, [u, u2], .cons ru (.cons ru2 .nil), ⟨_, hT2, rfl, _, rfl⟩⟩
    have I1 : Inv X pins σ (upd H s.heap.objs.size (.tup [x, y])) { s with heap := h'' } :=
      I.turnedNew (t' := s.toks) (ch := [z, TI, TO, i1, i2]) (fun c o hb q => (sb.2 c (fun q' => hb (by simp [q']))).trans (hk c o (fun q' => hb (by simp [q'])) (fun q' => hb (by simp [q'])) (fun q' => hb (by simp [q'])) (fun q' => hb (by simp [q'])) q)) hf (Nat.le_refl _) new
    refine ⟨.ref s.heap.objs.size, _, I1, rfl, ⟨_, x, y, rfl, I.hok.fresh (Nat.le_refl _), rfl, fun l hl => by rw [sq_inj I hl hqx]; exact hx, fun l hl => by rw [sq_inj I hl hqy]; exact hy⟩, ⟨z'', ?_, ⟨u, u2, ?_⟩, ?_, ?_⟩, fun c hcm => ?_⟩
    · exact (sb.2 _ D.TIz).trans (hk _ _ D.TIz D.TITO D.TIi1 D.TIi2 hTI)
    · exact (sb.2 _ D.TOz).trans TO'
    · exact h1'.at fun o q => (sb.2 _ D.i1z).trans q
    · exact h2'.at fun o q => (sb.2 _ D.i2z).trans q
    · have hlt : c < s.heap.objs.size := by
        have e' : c = z ∨ c = TI ∨ c = TO ∨ c = i1 ∨ c = i2 := by simpa using hcm
        rcases e' with q | q | q | q | q
        · rw [q]; exact hzl
        · rw [q]; exact Heap.lt_size hTI
        · rw [q]; exact Heap.lt_size hTO
        · rw [q]; obtain ⟨_, e1, _⟩ := SqI.get h1; exact Heap.lt_size e1
        · rw [q]; obtain ⟨_, e2, _⟩ := SqI.get h2; exact Heap.lt_size e2
      rw [upd_ne (Nat.ne_of_lt hlt)]
      exact (hf c hcm).1
  done := by
    intro X hP hw hK hc i pins s σ H E I hf st hg
    subst hP hw hK
    obtain ⟨hz, hTI, ⟨x0, y0, hTO⟩, h1, h2⟩ := st
    obtain ⟨xs, ys, hqx, hqy, hend⟩ := hg
    obtain ⟨its, rv, p, _⟩ := sq_of I hqx
    obtain ⟨its2, rv2, p2, _⟩ := sq_of I hqy
    have l1 := rv.length
    have l2 := rv2.length
    have he : its.toArray[i]? = none ∨ its2.toArray[i]? = none := by
      rcases hend with q | q
      · exact .inl (by simp; omega)
      · exact .inr (by simp; omega)
    exact pyNext_zipG_end (I.ok.hd hc) D hz hTI hTO h1 h2 p p2 he fun h' hk => ⟨rfl, I.turnedL (t' := s.toks) (ch := [z, TI, TO, i1, i2]) (fun c o hb q =>
      hk c o (fun q' => hb (by simp [q'])) (fun q' => hb (by simp [q'])) (fun q' => hb (by simp [q'])) (fun q' => hb (by simp [q'])) q) hf⟩
  self := fun A i s Q E st h => wpAny_pyIter_zip st.1 h
def iZipG (K : PySem.W.Frag) (ta : TA) : TI := fun σ H R => ta σ H fun vs H1 => ∃ a b xs ys b1 b2, vs = [.ref a, .ref b] ∧ SqB b1 K H1 a xs ∧ SqB b2 K H1 b ys ∧ R (ItzG b1 b2 K a b) H1
theorem pi_zipG {e e2 : Expr} {ta : TA} {p pos tpos : Pos} {elts : List Expr} {kk : Nat} (hg : Gl X "zip") (hm : X.mg "zip" = none) (ha : PA X [e, e2] ta)
    (hs : starEach [e, e2] X.env = (false, eval e X.env) :: starEach [e2] X.env := by rfl) (hpl : (backTo pos (starEach [e2] X.env)).any (·.1) = false := by rfl) :
    PI X (.Tuple elts kk tpos) (.Call (.Name "zip" p) [e, e2] [] pos) (iZipG X.K ta) := by
  refine ⟨fun pins s σ H R I h => ?_⟩
  refine Call_ (ld_blt I hg hm PyProof.Rows.boot_zip (PyProof.Rows.callWith_type1 (thn (ha.run pos pins s σ H _ I h) fun us s1 ⟨vs, H1, I1, r1, q1⟩ => ?_) hs hpl))
  obtain ⟨a, b, xs, ys, b1, b2, ex, hqx, hqy, q⟩ := q1
  subst ex
  cases r1 with
  | cons r rr =>
    cases rr with
    | cons r' rr =>
      cases rr
      cases r
      cases r'
      have fresh5 : ∀ c, c ∈ [s1.heap.objs.size + 4, s1.heap.objs.size + 2, s1.heap.objs.size + 3, s1.heap.objs.size, s1.heap.objs.size + 1] → FpOk X pins H1 c := fun c hcm => by
        have hle : s1.heap.objs.size ≤ c := by
          have e' : c = s1.heap.objs.size + 4 ∨ c = s1.heap.objs.size + 2 ∨ c = s1.heap.objs.size + 3 ∨ c = s1.heap.objs.size ∨ c = s1.heap.objs.size + 1 := by simpa using hcm
          rcases e' with z | z | z | z | z <;> rw [z] <;> first | exact Nat.le_refl _ | exact Nat.le_add_right _ _
        exact I1.fpOk hle (I1.hok.fresh hle)
      obtain ⟨its, rv, p1, _⟩ := sq_of I1 hqx
      obtain ⟨its2, rv2, p2, _⟩ := sq_of I1 hqy
      obtain ⟨o1, ho1⟩ := SqS.get p1
      obtain ⟨o2, ho2⟩ := SqS.get p2
      refine call_zipG p1 p2 fun h' hz hTI hTO h1 h2 hsz hk => wpAny_pyIter_zip hz ?_
      have I2 : Inv X pins σ H1 { s1 with heap := h' } := I1.kept (t' := s1.toks) hk
      exact ⟨s1.heap.objs.size + 4, [s1.heap.objs.size + 4, s1.heap.objs.size + 2, s1.heap.objs.size + 3, s1.heap.objs.size, s1.heap.objs.size + 1], _, _, H1, rfl, I2, turn_zipG (PySem.W.ktu_apart s1.heap.objs.size a b (Heap.lt_size ho1) (Heap.lt_size ho2)), ⟨hz, hTI, ⟨_, _, hTO⟩, h1, h2⟩, fresh5, q⟩
/-! ### list(zip(..)) -/
/-- the pairs tracked at their addresses -/
def putP : Hp → List Addr → List (V × V) → Hp
  | H, a :: as, p :: ps => putP (upd H a (.tup [p.1, p.2])) as ps
  | H, _, _ => H
theorem putP_off {b : Addr} : ∀ (as : List Addr) (ps : List (V × V)) (H : Hp), b ∉ as → putP H as ps b = H b
  | [], _, _, _ => rfl
  | _ :: _, [], _, _ => rfl
  | a :: as, p :: ps, H, h => by
    show putP (upd H a (.tup [p.1, p.2])) as ps b = H b
    rw [putP_off as ps _ (fun z => h (List.mem_cons_of_mem _ z)), upd_ne (fun z => h (by rw [z]; exact List.mem_cons_self))]
theorem putP_at : ∀ (as : List Addr) (ps : List (V × V)) (H : Hp), as.length = ps.length → as.Nodup → ∀ (j : Nat) (a : Addr) (p : V × V), as[j]? = some a → ps[j]? = some p → putP H as ps a = some (.tup [p.1, p.2])
  | a :: as, p :: ps, H, h, hn, 0, _, _, e1, e2 => by
    cases e1; cases e2
    show putP (upd H a (.tup [p.1, p.2])) as ps a = _
    rw [putP_off as ps _ (List.nodup_cons.mp hn).1, upd_same]
  | a :: as, p :: ps, H, h, hn, j + 1, b, q, e1, e2 => putP_at as ps (upd H a (.tup [p.1, p.2])) (Nat.succ.inj h) (List.nodup_cons.mp hn).2 j b q (by simpa using e1) (by simpa using e2)
  | [], _, _, _, _, _, _, _, e1, _ => by simp at e1
  | _ :: _, [], _, h, _, _, _, _, _, _ => by cases h
theorem vals_zip : ∀ {xs ys : List V} {us vs : List Value}, Vals xs us → Vals ys vs → ∀ (j : Nat) (p : Value × Value), (us.zip vs)[j]? = some p → ∃ q, (xs.zip ys)[j]? = some q ∧ RelV q.1 p.1 ∧ RelV q.2 p.2
  | _, _, _, _, .nil, _, _, _, h => by simp at h
  | _, _, _, _, .cons _ _, .nil, _, _, h => by simp at h
  | _, _, _, _, .cons r _, .cons r' _, 0, p, h => by
    simp at h
    subst h
    exact ⟨_, rfl, r, r'⟩
  | _, _, _, _, .cons _ t, .cons _ t', j + 1, p, h => by
    obtain ⟨q, h1, h2⟩ := vals_zip t t' j p (by simpa using h)
    exact ⟨q, by simpa using h1, h2⟩
theorem pairs_laid {h' : Heap} {tk : Nat} {xs ys : List V} {us vs : List Value} {acc : Array Value} {c : Nat} {as : List Addr} {L : Addr} (I : Inv X pins σ H s) (hL : s.heap.objs.size ≤ L) (hz : (xs.zip ys).length ≤ sizeLine) (r1 : Vals xs us) (r2 : Vals ys vs)
    (hk : ∀ b o, s.heap.get? b = some o → h'.get? b = some o) (hS : h'.get? L = some { cls := .type "list", dict := none, data := .seq acc c, slots := #[] }) (hl : as.length = (us.zip vs).length) (hG : Zg.PG (us.zip vs) L h' as) (hacc : acc.toList = as.map Value.ref) :
    ∃ H' : Hp, (∀ b o, H b = some o → H' b = some o) ∧ H L = none ∧ (∀ t ∈ as, H t = none) ∧ L ∉ as ∧ H' L = some (.lst (as.map V.ref)) ∧ (∀ (j : Nat) (a : Addr) (p : V × V), as[j]? = some a → (xs.zip ys)[j]? = some p → H' a = some (.tup [p.1, p.2])) ∧ Inv X pins σ H' { s with heap := h', toks := tk } := by
  have l1 := r1.length
  have l2 := r2.length
  have lk : (xs.zip ys).length = (us.zip vs).length := by rw [List.length_zip, List.length_zip, l1, l2]
  have hSn : L ∉ as := fun z => Nat.lt_irrefl _ (hG.above _ z)
  have nd : as.Nodup := List.Pairwise.imp (fun {a b} (h : a < b) => Nat.ne_of_lt h) hG.rise
  have new : ∀ t ∈ as, H t = none := fun t ht => I.hok.fresh (Nat.le_trans hL (Nat.le_of_lt (hG.above t ht)))
  have newS : H L = none := I.hok.fresh hL
  have atP := putP_at as (xs.zip ys) (upd H L (.lst (as.map V.ref))) (by omega) nd
  have off : ∀ b, b ∉ as → b ≠ L → putP (upd H L (.lst (as.map V.ref))) as (xs.zip ys) b = H b := fun b h1 h2 => by rw [putP_off as _ _ h1, upd_ne h2]
  have low : ∀ b o, s.heap.get? b = some o → b ∉ as ∧ b ≠ L := fun b o e => ⟨fun z => absurd (Nat.lt_of_lt_of_le (Heap.lt_size e) hL) (Nat.not_lt.mpr (Nat.le_of_lt (hG.above b z))), Nat.ne_of_lt (Nat.lt_of_lt_of_le (Heap.lt_size e) hL)⟩
  have kp : ∀ b u, H b = some u → (putP (upd H L (.lst (as.map V.ref))) as (xs.zip ys)) b = some u := fun b u e => by
    rw [off b (fun z => by rw [new b z] at e; cases e) (fun z => by rw [z, newS] at e; cases e)]
    exact e
  have eS : putP (upd H L (.lst (as.map V.ref))) as (xs.zip ys) L = some (.lst (as.map V.ref)) := by rw [putP_off as _ _ hSn, upd_same]
  refine ⟨_, kp, newS, new, hSn, eS, atP, ?_⟩
  refine I.call' (ch := []) rfl ⟨fun b o q _ _ _ => hk b o q, fun b o q _ _ _ => ⟨o.slots, hk b o q⟩, fun b o q n _ => ?_, fun b o q _ => ⟨o, hk b o q⟩, fun b xs q => kp b _ q, fun b o u q => kp b _ q, fun b ps q => ⟨#[], by rw [kp b _ q]; simp⟩⟩ (fun b u q => ?_) I.bare fun b z => by simp at z
  · obtain ⟨z1, z2⟩ := low b o q
    rw [off b z1 z2]
    exact n
  · by_cases hb : b ∈ as
    · obtain ⟨j, hj⟩ := List.mem_iff_getElem?.mp hb
      obtain ⟨p, hp, f3⟩ := hG.pairs j b hj
      obtain ⟨pv, hq, g1, g2⟩ := vals_zip r1 r2 j p hp
      rw [atP j b pv hj hq] at q
      cases q
      exact ⟨by show 2 ≤ sizeLine; decide, [p.1, p.2], .cons g1 (.cons g2 .nil), ⟨_, f3, rfl, _, rfl⟩⟩
    · by_cases hb2 : b = L
      · rw [hb2] at q ⊢
        rw [eS] at q
        cases q
        refine ⟨by rw [List.length_map]; omega, acc.toList, c, by rw [hacc]; exact LiI.vals_refs as, ?_⟩
        rw [Array.toArray_toList]
        exact hS
      · rw [off b hb hb2] at q
        exact (I.hok b u q).stay (fun d v _ y => hk d v y) (fun d y => kp d _ y) fun d xs y => kp d _ y
def tListZip (K : PySem.W.Frag) (ta : TA) : TE := fun σ H Q => ta σ H fun vs H1 => ∃ a b xs ys b1 b2, vs = [.ref a, .ref b] ∧ SqB b1 K H1 a xs ∧ SqB b2 K H1 b ys ∧
  ∀ (H' : Hp) (p : Addr) (ts : List Addr), (∀ b o, H1 b = some o → H' b = some o) → H1 p = none → (∀ t ∈ ts, H1 t = none) → p ∉ ts → H' p = some (.lst (ts.map V.ref)) → ts.length = (xs.zip ys).length →
    (∀ (j : Nat) (t : Addr) (q : V × V), ts[j]? = some t → (xs.zip ys)[j]? = some q → H' t = some (.tup [q.1, q.2])) → Q (.ref p) H'
/-- list(zip(a, b)) -/
theorem pe_listZip {e e2 : Expr} {ta : TA} {p p2 pos pos2 : Pos} (hc : X.calm = true) (hg : Gl X "list") (hm : X.mg "list" = none) (hg2 : Gl X "zip") (hm2 : X.mg "zip" = none) (ha : PA X [e, e2] ta)
    (hs : starEach [e, e2] X.env = (false, eval e X.env) :: starEach [e2] X.env := by rfl) (hpl : (backTo pos2 (starEach [e2] X.env)).any (·.1) = false := by rfl)
    (hs2 : starEach [.Call (.Name "zip" p2) [e, e2] [] pos2] X.env = (false, eval (.Call (.Name "zip" p2) [e, e2] [] pos2) X.env) :: starEach [] X.env := by rfl) :
    PE X (.Call (.Name "list" p) [.Call (.Name "zip" p2) [e, e2] [] pos2] [] pos) (tListZip X.K ta) := by
  refine ⟨fun pins s σ H Q I hq => ?_⟩
  refine wpAny_Call_Name_kw (ld_blt I hg hm (u := .type "list") (by decide +kernel) ?_)
  refine PyProof.Rows.callWith_type1 ?_ hs2 rfl
  rw [hs2]
  show wpAny _ _ (spliced ((false, eval (.Call (.Name "zip" p2) [e, e2] [] pos2) X.env) :: backTo pos (starEach [] X.env))) _ _ s
  refine Calls.spliced_cons ?_
  refine Call_ (ld_blt I hg2 hm2 PyProof.Rows.boot_zip (PyProof.Rows.callWith_type1 (thn (ha.run pos2 pins s σ H _ I hq) fun us s1 ⟨vs, H1, I1, r1, q1⟩ => ?_) hs hpl))
  obtain ⟨a, b, xs, ys, b1, b2, ex, hqx, hqy, q⟩ := q1
  subst ex
  cases r1 with
  | cons r rr =>
    cases rr with
    | cons r' rr =>
      cases rr
      cases r
      cases r'
      obtain ⟨its, rv, p1, z1⟩ := sq_of I1 hqx
      obtain ⟨its2, rv2, p2', z2⟩ := sq_of I1 hqy
      obtain ⟨o1, ho1⟩ := SqS.get p1
      obtain ⟨o2, ho2⟩ := SqS.get p2'
      refine call_zipG p1 p2' fun h' hz hTI hTO h1 h2 hsz hk => ?_
      refine Calls.spliced_nil ?_
      have D := PySem.W.ktu_apart s1.heap.objs.size a b (Heap.lt_size ho1) (Heap.lt_size ho2)
      have l1 := rv.length
      have l2 := rv2.length
      have zn : (its.toArray.toList.zip its2.toArray.toList).length ≤ sizeLine := by
        show (its.zip its2).length ≤ sizeLine
        rw [List.length_zip]; omega
      have zx : (xs.zip ys).length ≤ sizeLine := by rw [List.length_zip]; omega
      refine zg_call (b1 := b1) (b2 := b2) (s := { s1 with heap := h' }) (I1.ok.hd hc) D hz hTI ⟨_, _, hTO⟩ h1 h2 (p1.at fun o e => hk _ o e) (p2'.at fun o e => hk _ o e) zn fun h2' tk acc c as k1 k2 k3 k4 k5 => ?_
      have lt : ∀ {b o}, s1.heap.get? b = some o → b < s1.heap.objs.size := fun e => Heap.lt_size e
      obtain ⟨H', y1, y2, y3, y4, y5, y6, J⟩ := pairs_laid (tk := tk) (L := h'.objs.size) I1 (by rw [hsz]; exact Nat.le_add_right _ _) zx rv rv2
        (fun b o e => k1 b o (Nat.ne_of_lt (Nat.lt_of_lt_of_le (lt e) (Nat.le_add_right _ _))) (Nat.ne_of_lt (Nat.lt_of_lt_of_le (lt e) (Nat.le_add_right _ _))) (Nat.ne_of_lt (lt e)) (Nat.ne_of_lt (Nat.lt_of_lt_of_le (lt e) (Nat.le_add_right _ _))) (hk b o e)) k2 k3 k4 k5
      refine ⟨.ref _, H', J, rfl, q H' _ as y1 y2 y3 y4 y5 ?_ y6⟩
      rw [k3, List.length_zip, List.length_zip]
      show min its.length its2.length = _
      rw [← l1, ← l2]
end Zr
section
variable {bb : Birth} {X : Cx} {e e2 : Expr} {t : AA} {elts : List Expr} {kk : Nat} {tpos p p2 pos pos2 : Pos}
def sqb : AV → Bool
  | .tup _ => false
  | _ => true
theorem rel_sqB {K : PySem.W.Frag} {H : Hp} {S : Store} {v : V} {d : AV} {ds : List AV} (so : StOk K H S) (r : RelA K H S v d) (e : seqA S d = some ds) : ∃ a vs, v = .ref a ∧ Zr.SqB (sqb d) K H a vs ∧ RelAs K H S vs ds := by
  have L : lstA S d = some ds → sqb d = true → ∃ a vs, v = .ref a ∧ Zr.SqB (sqb d) K H a vs ∧ RelAs K H S vs ds := fun h hb => by
    obtain ⟨a, vs, ev, h1, rs⟩ := rel_lstE so r h
    rw [hb]
    exact ⟨a, vs, ev, h1, rs⟩
  cases d with
  | tup xs =>
    cases e
    obtain ⟨a, vs, ev, h1, rs⟩ := rel_tupE r
    exact ⟨a, vs, ev, h1, rs⟩
  | lst xs => exact L e rfl
  | rol xs => exact L e rfl
  | ref l => exact L e rfl
  | non => cases e
  | bl _ => cases e
  | int _ => cases e
  | str _ => cases e
  | ty _ => cases e
theorem zipA_len (xs ys : List AV) : (zipA xs ys).length = min xs.length ys.length := by unfold zipA; rw [List.length_zipWith]
/-- for .. in zip(a, b) -/
def aiZip (t : AA) : AI := fun τ S Q => t τ S fun ds S1 => ∃ d1 d2 xs ys, ds = [d1, d2] ∧ seqA S1 d1 = some xs ∧ seqA S1 d2 = some ys ∧ Q (zipA xs ys) (fun S2 => seqA S2 d1 = some xs ∧ seqA S2 d2 = some ys) S1
theorem i_zip (hm : X.mg "zip" = none) (ha : PA X [e, e2] (lowA (kx X bb) t)) (hg : Gl X "zip" := by rfl) (hs : starEach [e, e2] X.env = (false, eval e X.env) :: starEach [e2] X.env := by rfl) (hpl : (backTo pos (starEach [e2] X.env)).any (·.1) = false := by rfl) :
    PI X (.Tuple elts kk tpos) (.Call (.Name "zip" p) [e, e2] [] pos) (lowI (kx X bb) (aiZip t)) := (Zr.pi_zipG hg hm ha hs hpl).weak fun σ H R ⟨τ, S, Q, Rr, so, q, k⟩ => ⟨τ, S, _, Rr, so, q, fun vs H1 ds S1 so1 st1 r1 ⟨d1, d2, xs, ys, ed, e1, e2, q1⟩ => by
    subst ed
    obtain ⟨v1, v2, rfl, r, r'⟩ := rel_two r1
    obtain ⟨a, us, rfl, h1, rs⟩ := rel_sqB so1 r e1
    obtain ⟨b, ws, rfl, h2, rs'⟩ := rel_sqB so1 r' e2
    refine ⟨a, b, us, ws, sqb d1, sqb d2, rfl, h1, h2, k _ H1 _ _ S1 so1 st1 (fun H' S' so' st' g => ?_) q1⟩
    obtain ⟨a', us', ea, h1', rs1⟩ := rel_sqB so' (r.step st') g.1
    cases ea
    obtain ⟨b', ws', eb, h2', rs2⟩ := rel_sqB so' (r'.step st') g.2
    cases eb
    refine ⟨fun i x hx => ?_, us', ws', h1', h2', ?_⟩
    · obtain ⟨y1, y2, hy1, hy2, rfl⟩ := zipA_get hx
      obtain ⟨u1, hu1, ru1⟩ := rs1.get hy1
      obtain ⟨u2, hu2, ru2⟩ := rs2.get hy2
      refine ⟨⟨us', ws', u1, u2, h1', h2', hu1, hu2⟩, fun v H'' hv => ?_⟩
      obtain ⟨T, x1, x2, rfl, hT, rfl, f1, f2⟩ := hv
      have g1 := f1 us' h1'
      have g2 := f2 ws' h2'
      rw [hu1] at g1
      rw [hu2] at g2
      cases g1
      cases g2
      exact ⟨stok_new so' hT, step_new so' hT, rel_tup so' hT (.cons ru1 (.cons ru2 .nil))⟩
    · have a1 := rs1.length
      have a2 := rs2.length
      rw [zipA_len]
      omega⟩
/-- list(zip(a, b)) -/
def aListZip (t : AA) : AE := fun τ S Q => t τ S fun ds S1 => ∃ d1 d2 xs ys, ds = [d1, d2] ∧ seqA S1 d1 = some xs ∧ seqA S1 d2 = some ys ∧ Q (.lst (zipA xs ys)) S1
theorem rels_zip {K : PySem.W.Frag} {H : Hp} {S : Store} : ∀ {us ws : List V} {xs ys : List AV} {ts : List Addr}, RelAs K H S us xs → RelAs K H S ws ys → ts.length = (us.zip ws).length → (∀ t ∈ ts, S t = none) →
    (∀ (j : Nat) (t : Addr) (q : V × V), ts[j]? = some t → (us.zip ws)[j]? = some q → H t = some (.tup [q.1, q.2])) → RelAs K H S (ts.map V.ref) (zipA xs ys)
  | _, _, _, _, ts, .nil, _, hl, _, _ => by
    have : ts = [] := List.eq_nil_of_length_eq_zero (by simpa using hl)
    subst this
    exact .nil
  | _, _, _, _, ts, .cons _ _, .nil, hl, _, _ => by
    have : ts = [] := List.eq_nil_of_length_eq_zero (by simpa using hl)
    subst this
    exact .nil
  | _, _, _, _, [], .cons _ _, .cons _ _, hl, _, _ => by simp at hl
  | _, _, _, _, t :: ts, .cons r rs, .cons r' rs', hl, hn, ht => by
    refine .cons (.tup (.inl (ht 0 t _ rfl rfl)) (hn t List.mem_cons_self) (.cons r (.cons r' .nil))) ?_
    exact rels_zip rs rs' (by simpa using hl) (fun t h => hn t (List.mem_cons_of_mem _ h)) fun j t q h1 h2 => ht (j + 1) t q (by simpa using h1) (by simpa using h2)
theorem e_listZip (hc : X.calm = true) (hm : X.mg "list" = none) (hm2 : X.mg "zip" = none) (ha : PA X [e, e2] (lowA (kx X bb) t)) (hg : Gl X "list" := by rfl) (hg2 : Gl X "zip" := by rfl)
    (hs : starEach [e, e2] X.env = (false, eval e X.env) :: starEach [e2] X.env := by rfl) (hpl : (backTo pos2 (starEach [e2] X.env)).any (·.1) = false := by rfl)
    (hs2 : starEach [.Call (.Name "zip" p2) [e, e2] [] pos2] X.env = (false, eval (.Call (.Name "zip" p2) [e, e2] [] pos2) X.env) :: starEach [] X.env := by rfl) :
    PE X (.Call (.Name "list" p) [.Call (.Name "zip" p2) [e, e2] [] pos2] [] pos) (low (kx X bb) (aListZip t)) :=
  (Zr.pe_listZip hc hg hm hg2 hm2 ha hs hpl hs2).weak fun σ H QH ⟨τ, S, Q, R, so, q, k⟩ => ⟨τ, S, _, R, so, q, fun vs H1 ds S1 so1 st1 r1 ⟨d1, d2, xs, ys, ed, e1, e2, q1⟩ => by
    subst ed
    obtain ⟨v1, v2, rfl, r, r'⟩ := rel_two r1
    obtain ⟨a, us, rfl, h1, rs⟩ := rel_sqB so1 r e1
    obtain ⟨b, ws, rfl, h2, rs'⟩ := rel_sqB so1 r' e2
    refine ⟨a, b, us, ws, sqb d1, sqb d2, rfl, h1, h2, fun H' p ts y1 y2 y3 y4 y5 y6 y7 => ?_⟩
    have st2 : Step H1 S1 H' S1 := ⟨fun x o n h => ⟨y1 x o h, n⟩, fun x h => by
      obtain ⟨o, ho⟩ := so1.some h
      exact ⟨(y1 x o ho).trans ho.symm, h⟩⟩
    have so2 : StOk X.K H' S1 := fun x o h => (so1 x o h).step st2 (by
      obtain ⟨u, hu⟩ := so1.some h
      rw [y1 x u hu, hu])
    refine k _ _ _ _ so2 (st1.trans st2) (.lst y5 (so1.fresh y2) (rels_zip (rs.step st2) (rs'.step st2) y6 (fun t ht => so1.fresh (y3 t ht)) y7)) q1⟩
end
namespace Zr
open Zg PySem.W
section
variable {X : Cx} {e e2 : Expr} {p p2 pos pos2 : Pos}
theorem kvs_zip : ∀ {ks : List Key} {ys : List V} {vs : List Value}, Vals ys vs → KV (ks.zip ys) (ks.zip vs)
  | [], _, _, _ => .nil
  | _ :: _, _, _, .nil => .nil
  | _ :: ks, _, _, .cons r t => .cons ⟨rfl, r⟩ (kvs_zip t)
theorem keyIs_of {k : Key} {u : Value} (r : RelV (kV k) u) : keyIs k u = true := by
  cases k with
  | inl i => obtain ⟨t, rfl⟩ := r; exact keyIs_int i t
  | inr x => obtain ⟨t, rfl⟩ := r; exact keyIs_str x t
def tDictZip (K : PySem.W.Frag) (ta : TA) : TE := fun σ H Q => ta σ H fun vs H1 => ∃ (a b : Addr) (ks : List Key) (ys : List V) (b1 b2 : Bool), vs = [.ref a, .ref b] ∧ SqB b1 K H1 a (ks.map kV) ∧ SqB b2 K H1 b ys ∧
  ∀ p, H1 p = none → Q (.ref p) (upd H1 p (.dK (mergeK [] (ks.zip ys))))
/-- dict(zip(a, b)) -/
theorem pe_dictZip {ta : TA} (hc : X.calm = true) (hg : Gl X "dict") (hm : X.mg "dict" = none) (hg2 : Gl X "zip") (hm2 : X.mg "zip" = none) (ha : PA X [e, e2] ta)
    (hs : starEach [e, e2] X.env = (false, eval e X.env) :: starEach [e2] X.env := by rfl) (hpl : (backTo pos2 (starEach [e2] X.env)).any (·.1) = false := by rfl)
    (hs2 : starEach [.Call (.Name "zip" p2) [e, e2] [] pos2] X.env = (false, eval (.Call (.Name "zip" p2) [e, e2] [] pos2) X.env) :: starEach [] X.env := by rfl) :
    PE X (.Call (.Name "dict" p) [.Call (.Name "zip" p2) [e, e2] [] pos2] [] pos) (tDictZip X.K ta) := by
  refine ⟨fun pins s σ H Q I hq => ?_⟩
  refine wpAny_Call_Name_kw (ld_blt I hg hm (u := .type "dict") (by decide +kernel) ?_)
  refine PyProof.Rows.callWith_type1 ?_ hs2 rfl
  rw [hs2]
  show wpAny _ _ (spliced ((false, eval (.Call (.Name "zip" p2) [e, e2] [] pos2) X.env) :: backTo pos (starEach [] X.env))) _ _ s
  refine Calls.spliced_cons ?_
  refine Call_ (ld_blt I hg2 hm2 PyProof.Rows.boot_zip (PyProof.Rows.callWith_type1 (thn (ha.run pos2 pins s σ H _ I hq) fun us s1 ⟨vs, H1, I1, r1, q1⟩ => ?_) hs hpl))
  obtain ⟨a, b, ks, ys, b1, b2, ex, hqx, hqy, q⟩ := q1
  subst ex
  cases r1 with
  | cons r rr =>
    cases rr with
    | cons r' rr =>
      cases rr
      cases r
      cases r'
      obtain ⟨its, rv, p1, z1⟩ := sq_of I1 hqx
      obtain ⟨its2, rv2, p2', z2⟩ := sq_of I1 hqy
      obtain ⟨o1, ho1⟩ := SqS.get p1
      obtain ⟨o2, ho2⟩ := SqS.get p2'
      refine call_zipG p1 p2' fun h' hz hTI hTO h1 h2 hsz hk => ?_
      refine Calls.spliced_nil ?_
      have D := PySem.W.ktu_apart s1.heap.objs.size a b (Heap.lt_size ho1) (Heap.lt_size ho2)
      have l1 := rv.length
      have l2 := rv2.length
      rw [List.length_map] at l1 z1
      have lt : ∀ {b o}, s1.heap.get? b = some o → b < s1.heap.objs.size := fun e => Heap.lt_size e
      refine PySem.call_dict_pairs (knd := mixKind X.prog X.w) (kvs := ks.zip its2) (s := { s1 with heap := h' }) (PairArg.zipG (b1 := b1) (b2 := b2) _ _ _ _ _ a b D its.toArray its2.toArray) (I1.ok.hd hc)
        ⟨hz, hTI, ⟨_, _, hTO⟩, h1, h2, p1.at fun o e => hk _ o e, p2'.at fun o e => hk _ o e⟩ ⟨?_, ?_⟩ ?_ fun h2' tk hd' kk => ?_
      · rw [List.length_zip, List.size_toArray, List.size_toArray]; omega
      · intro i key v ⟨hx, hy⟩
        have hx' : its[i]? = some key := by simpa using hx
        have hy' : its2[i]? = some v := by simpa using hy
        have hi : i < ks.length := by have := (List.getElem?_eq_some_iff.mp hx').1; omega
        have hk' : ks[i]? = some ks[i] := List.getElem?_eq_getElem hi
        obtain ⟨u, hu, ru⟩ := rv.get (i := i) (x := kV ks[i]) (by rw [List.getElem?_map, hk']; rfl)
        rw [hx'] at hu
        cases hu
        refine ⟨ks[i], ?_, keyIs_of ru⟩
        rw [List.getElem?_zip_eq_some]
        exact ⟨hk', hy'⟩
      · rw [List.size_toArray, List.size_toArray]; omega
      · have hm : (h'.objs.size == sysModules) = false := beq_eq_false_iff_ne.mpr (Nat.ne_of_gt (Nat.lt_of_lt_of_le I1.big (by rw [hsz]; exact Nat.le_add_right _ _)))
        have hlen : (mergeK [] (ks.zip ys)).length ≤ sizeLine := by
          refine Nat.le_trans (length_mergeK _ []) ?_
          rw [List.length_nil, Nat.zero_add, List.length_zip]; omega
        exact ⟨.ref h'.objs.size, upd H1 h'.objs.size (.dK (mergeK [] (ks.zip ys))), I1.laid (t' := tk) (fun b o e => kk b o (fun hb => by
          have hl := lt e
          have e' : b = s1.heap.objs.size + 4 ∨ b = s1.heap.objs.size + 3 ∨ b = s1.heap.objs.size ∨ b = s1.heap.objs.size + 1 := by simpa using hb
          rcases e' with z | z | z | z <;> rw [z] at hl <;> exact absurd hl (Nat.not_lt.mpr (by first | exact Nat.le_refl _ | exact Nat.le_add_right _ _))) (hk b o e)) (by rw [hsz]; exact Nat.le_add_right _ _)
          (show ObjOk X.prog X.w _ _ _ (.dK (mergeK [] (ks.zip ys))) from ⟨hlen, hm, merged [] (ks.zip its2), KV.merge (kvs_zip rv2) .nil, hd'⟩), rfl, q _ (I1.hok.fresh (by rw [hsz]; exact Nat.le_add_right _ _))⟩
end
end Zr
/-- dicts put together -/
def mergeA (kvs more : List (Key × AV)) : List (Key × AV) := more.foldl (fun acc kv => putKA acc kv.1 kv.2) kvs
section
variable {K : PySem.W.Frag} {H : Hp} {S : Store}
theorem relD_merge : ∀ {more : List (Key × V)} {moreA : List (Key × AV)} {ws : List (Key × V)} {kvs : List (Key × AV)}, RelD K H S more moreA → RelD K H S ws kvs → RelD K H S (mergeK ws more) (mergeA kvs moreA)
  | [], [], _, _, _, h => h
  | [], _ :: _, _, _, h, _ => by cases h.1
  | _ :: _, [], _, _, h, _ => by cases h.1
  | p :: more, q :: moreA, ws, kvs, h, h' => by
    obtain ⟨e, r, t⟩ := relD_cons h
    have h2 := relD_put q.1 r h'
    rw [← e] at h2
    show RelD K H S (mergeK (putK ws p.1 p.2) more) (mergeA (putKA kvs q.1 q.2) moreA)
    rw [← e]
    exact relD_merge t h2
theorem relD_zip : ∀ {ks : List Key} {ys : List V} {ds : List AV}, RelAs K H S ys ds → RelD K H S (ks.zip ys) (ks.zip ds)
  | [], _, _, _ => ⟨rfl, .nil⟩
  | _ :: _, _, _, .nil => ⟨rfl, .nil⟩
  | _ :: ks, _, _, .cons r t => relD_mk rfl r (relD_zip t)
theorem rel_keys : ∀ {ks : List Key} {vs : List V}, RelAs K H S vs (ks.map kA) → vs = ks.map kV
  | [], _, .nil => rfl
  | k :: ks, _, .cons r t => by rw [rel_kE r, rel_keys t]; rfl
end
section
variable {bb : Birth} {X : Cx} {e e2 : Expr} {t : AA} {p p2 pos pos2 : Pos}
/-- dict(zip(a, b)), in the store -/
def aDictZip (t : AA) : AE := fun τ S Q => t τ S fun ds S1 => ∃ (d1 d2 : AV) (ks : List Key) (ys : List AV), ds = [d1, d2] ∧ seqA S1 d1 = some (ks.map kA) ∧ seqA S1 d2 = some ys ∧ ∀ l, S1 l = none → Q (.ref l) (updS S1 l (.dK (mergeA [] (ks.zip ys))))
theorem e_dictZip (hc : X.calm = true) (hm : X.mg "dict" = none) (hm2 : X.mg "zip" = none) (ha : PA X [e, e2] (lowA (kx X bb) t)) (hg : Gl X "dict" := by rfl) (hg2 : Gl X "zip" := by rfl)
    (hs : starEach [e, e2] X.env = (false, eval e X.env) :: starEach [e2] X.env := by rfl) (hpl : (backTo pos2 (starEach [e2] X.env)).any (·.1) = false := by rfl)
    (hs2 : starEach [.Call (.Name "zip" p2) [e, e2] [] pos2] X.env = (false, eval (.Call (.Name "zip" p2) [e, e2] [] pos2) X.env) :: starEach [] X.env := by rfl) :
    PE X (.Call (.Name "dict" p) [.Call (.Name "zip" p2) [e, e2] [] pos2] [] pos) (low (kx X bb) (aDictZip t)) :=
  (Zr.pe_dictZip hc hg hm hg2 hm2 ha hs hpl hs2).weak fun σ H QH ⟨τ, S, Q, R, so, q, k⟩ => ⟨τ, S, _, R, so, q, fun vs H1 ds S1 so1 st1 r1 ⟨d1, d2, ks, ys, ed, e1, e2, q1⟩ => by
    subst ed
    obtain ⟨v1, v2, rfl, r, r'⟩ := rel_two r1
    obtain ⟨a, us, rfl, h1, rs⟩ := rel_sqB so1 r e1
    obtain ⟨b, ws, rfl, h2, rs'⟩ := rel_sqB so1 r' e2
    obtain rfl := rel_keys rs
    refine ⟨a, b, ks, ws, sqb d1, sqb d2, rfl, h1, h2, fun l hl => ?_⟩
    have n : S1 l = none := so1.fresh hl
    have st2 := step_put (o := .dK (mergeK [] (ks.zip ws))) (u := .dK (mergeA [] (ks.zip ys))) so1 hl
    have rd : RelD X.K _ _ (mergeK [] (ks.zip ws)) (mergeA [] (ks.zip ys)) := relD_merge (relD_zip (rs'.step st2)) ⟨rfl, .nil⟩
    exact k _ _ _ _ (stok_put (u := .dK (mergeA [] (ks.zip ys))) so1 hl ⟨_, upd_same, rd.1, rd.2⟩) (st1.trans st2) (.ref l) (q1 l n)⟩
/-- dict(xs), xs a list of pairs -/
def aDictP (t : AA) : AE := fun τ S Q => t τ S fun ds S1 => ∃ (d : AV) (kvs : List (Key × AV)), ds = [d] ∧ lstA S1 d = some (kvs.map fun kv => .tup [kA kv.1, kv.2]) ∧ ∀ l, S1 l = none → Q (.ref l) (updS S1 l (.dK (mergeA [] kvs)))
theorem rel_pairs {K : PySem.W.Frag} {H : Hp} {S : Store} : ∀ {kvs : List (Key × AV)} {vs : List V}, RelAs K H S vs (kvs.map fun kv => .tup [kA kv.1, kv.2]) → ∃ (ps : List Addr) (ws : List (Key × V)), vs = ps.map V.ref ∧ Paired (fun p kv => SqT K H p [kV kv.1, kv.2]) ps ws ∧ RelD K H S ws kvs
  | [], _, .nil => ⟨[], [], rfl, .nil, rfl, .nil⟩
  | kv :: kvs, _, .cons r t => by
    obtain ⟨a, us, rfl, h, rs⟩ := rel_tupE r
    obtain ⟨v1, v2, rfl, r1, r2⟩ := rel_two rs
    obtain rfl := rel_kE r1
    obtain ⟨ps, ws, rfl, hp, hd⟩ := rel_pairs t
    exact ⟨a :: ps, (kv.1, v2) :: ws, rfl, .cons h hp, relD_mk rfl r2 hd⟩
theorem e_dictP {es : List Expr} (hc : X.calm = true) (hm : X.mg "dict" = none) (ha : PA X (e :: es) (lowA (kx X bb) t)) (hg : Gl X "dict" := by rfl) (he : starEach (e :: es) X.env = (false, eval e X.env) :: starEach es X.env := by rfl) (hpl : (backTo pos (starEach es X.env)).any (·.1) = false := by rfl) :
    PE X (.Call (.Name "dict" p) (e :: es) [] pos) (low (kx X bb) (aDictP t)) :=
  (pe_callTy (call_dictP hc) hg hm (by decide +kernel) ha (by decide) (by decide) he hpl).weak fun σ H QH ⟨τ, S, Q, R, so, q, k⟩ => ⟨τ, S, _, R, so, q, fun vs H1 ds S1 so1 st1 r1 ⟨d, kvs, ed, e, q1⟩ => by
    subst ed
    obtain ⟨w, rfl, rw'⟩ := rel_one r1
    obtain ⟨a, vs, rfl, ha, ra⟩ := rel_lstE so1 rw' e
    obtain ⟨ps, ws, rfl, hp, hd⟩ := rel_pairs ra
    refine ⟨a, ps, ws, rfl, ha, hp, fun l hl => ?_⟩
    have n : S1 l = none := so1.fresh hl
    have st2 := step_put (o := .dK (mergeK [] ws)) (u := .dK (mergeA [] kvs)) so1 hl
    have rd : RelD X.K _ _ (mergeK [] ws) (mergeA [] kvs) := relD_merge ⟨hd.1, hd.2.step st2⟩ ⟨rfl, .nil⟩
    exact k _ _ _ _ (stok_put (u := .dK (mergeA [] kvs)) so1 hl ⟨_, upd_same, rd.1, rd.2⟩) (st1.trans st2) (.ref l) (q1 l n)⟩
/-! ### text.replace(A, B) -/
def tReplG (to : TE) (y z : Str) : TE := fun σ H Q => to σ H fun v H1 => ∃ x, v = .str x ∧ x.length + (x.length + 1) * z.length ≤ 16777216 ∧ Q (.str (Txt.replace x y z)) H1
theorem pe_replG {o : Expr} {to : TE} {nA nB y z : Str} {t u : Tok} {p1 p2 apos : Pos} (ho : PE X o to) (mA : X.mg nA = some (.str y t)) (mB : X.mg nB = some (.str z u)) (ht : t ≠ 0) (hu : u ≠ 0) (htu : t ≠ u) (hyz : (y == z) = false) (gA : Gl X nA) (gB : Gl X nB)
    (dA : (nA == ("__debug__" : Str)) = false) (dB : (nB == ("__debug__" : Str)) = false) (hst : starEach [.Name nA p1, .Name nB p2] X.env = [(false, eval (.Name nA p1) X.env), (false, eval (.Name nB p2) X.env)] := by rfl)
    (hbase : attributeBase o "replace" X.env (eval o X.env) = eval o X.env := by rfl) (hline : (apos.endLine == pos.line) = true := by rfl) :
    PE X (.Call (.Attribute o "replace" apos) [.Name nA p1, .Name nB p2] [] pos) (tReplG to y z) := by
  refine ⟨fun pins s σ H Q I h => ?_⟩
  refine PySem.Call_method2 hbase hst hline (thn (ho.run pins s σ H _ I h) fun v s1 ⟨v', H1, I1, r1, x, e1, hb, q⟩ => ?_)
  subst e1
  obtain ⟨tx, e2⟩ := r1
  subst e2
  refine ⟨"str", _, PySem.F.plainAttrs_str, PySem.F.slot_str_replace, PySem.F.type_str_replace, typeIs_str _ _ _, (fun _ e => nomatch e), Calls.callWith_builtin rfl (Calls.evalArgs_plain (Calls.spliced_cons ?_))⟩
  refine ld_glob I1 gA mA (Calls.spliced_cons (ld_glob I1 gB mB (Calls.spliced_nil ?_) dB)) dA
  exact PySem.SC.replace ht hu htu hyz hb fun t' k => ⟨.str (Txt.replace x y z), H1, I1.tok k, ⟨t', rfl⟩, q⟩
/-- two texts of the top that stand apart -/
def GRep (mg : Str → Option Value) (nA nB y z : Str) : Prop := ∃ t u : Tok, mg nA = some (.str y t) ∧ mg nB = some (.str z u) ∧ t ≠ 0 ∧ u ≠ 0 ∧ t ≠ u
theorem gRep_of {K : PySem.W.Frag} {h : Heap} {mg : Str → Option Value} {nA nB y z : Str} {t u : Tok} (X : K.In h) (G : h.Ns mainGlobals mg) (a : PySem.W.nsIn K mainGlobals nA = some (some (.str y t))) (b : PySem.W.nsIn K mainGlobals nB = some (some (.str z u))) (d : (decide (t ≠ 0) && decide (u ≠ 0) && decide (t ≠ u)) = true) : GRep mg nA nB y z := by
  simp only [Bool.and_eq_true, decide_eq_true_eq] at d
  exact ⟨t, u, PySem.W.mg_of X G a, PySem.W.mg_of X G b, d.1.1, d.1.2, d.2⟩
def aRepl (to : AE) (y z : Str) : AE := fun τ S Q => to τ S fun v S1 => ∃ x, v = .str x ∧ x.length + (x.length + 1) * z.length ≤ 16777216 ∧ Q (.str (Txt.replace x y z)) S1
theorem e_replG {o : Expr} {to : AE} {nA nB y z : Str} {p1 p2 apos : Pos} (G : GRep X.mg nA nB y z) (ho : PE X o (low (kx X bb) to)) (hyz : (y == z) = false := by decide) (gA : Gl X nA := by rfl) (gB : Gl X nB := by rfl)
    (dA : (nA == ("__debug__" : Str)) = false := by decide) (dB : (nB == ("__debug__" : Str)) = false := by decide) (hst : starEach [.Name nA p1, .Name nB p2] X.env = [(false, eval (.Name nA p1) X.env), (false, eval (.Name nB p2) X.env)] := by rfl)
    (hbase : attributeBase o "replace" X.env (eval o X.env) = eval o X.env := by rfl) (hline : (apos.endLine == pos.line) = true := by rfl) :
    PE X (.Call (.Attribute o "replace" apos) [.Name nA p1, .Name nB p2] [] pos) (low (kx X bb) (aRepl to y z)) := by
  obtain ⟨t, u, mA, mB, ht, hu, htu⟩ := G
  exact (pe_replG ho mA mB ht hu htu hyz gA gB dA dB hst hbase hline).weak fun σ H QH ⟨τ, S, Q, R, so, q, k⟩ => ⟨τ, S, _, R, so, q, fun v H1 d S1 so1 st1 r1 ⟨x, ed, hb, q1⟩ => by
    subst ed
    obtain rfl := rel_strE r1
    exact ⟨x, rfl, hb, k _ H1 _ S1 so1 st1 (.str _) q1⟩⟩
end
/-! ### tuple * int -/
namespace Zr
theorem tuple_mul1 (l : Addr) (items : Array Value) (n : Nat) (dd : Option Addr) (sl : Array (Option Value)) (u : Tok) :
    Meets (Builtin.«tuple.__mul__» ⟨[.ref l, .int 1 u], []⟩) (fun _ R s => s.heap.get? l = some { cls := .type "tuple", dict := dd, data := .seq items n, slots := sl } ∧ R (.ok (.ret (Value.ref l))) s) :=
  .of_wp fun prog w A R s h => by
    obtain ⟨hp, g, d, tk, os⟩ := s
    obtain ⟨hl, h⟩ := h
    have f1 := AutoSeq1.idx_int
    wp_walk using wpAny_loadPart' hl
    repeat (first
      | (refine wpAny_ite_false (by decide) ?_; wp_walk using wpAny_loadPart' hl)
      | (refine wpAny_ite_true (by simp) ?_; wp_walk using wpAny_loadPart' hl))
    all_goals first | exact ⟨_, rfl, h⟩ | skip
theorem op_rep1 {X : Cx} : OpR X (binaryOp .Mult) (fun x y H Q => ∃ l xs, x = .ref l ∧ y = .int 1 ∧ SqT X.K H l xs ∧ Q (.ref l) H) := by
  intro pins s σ H x y v u Q I rx ry h
  obtain ⟨l, xs, rfl, rfl, hT, q⟩ := h
  cases rx
  obtain ⟨t, rfl⟩ := ry
  obtain ⟨its, r, ⟨⟨cls, dd, data, sl⟩, ho, hc, n, hd⟩, hs⟩ := I.tuple hT
  simp only at hc hd
  subst hc hd
  refine wpAny_binaryOp_repeat_ref (T := "tuple") (U := "int") (by decide) ⟨_, ho, rfl⟩ (fun s' => typeIs_int s' 1 t) noFill_tuple_mul PySem.F.fills_int_mul PySem.F.slot_int_rmul repeat_tuple PySem.F.slot_int_index.lookup
    (call_meets PySem.F.slot_int_rmul (typeIs_int s 1 t) PySem.F.entry_int_rmul (PySem.F.args_int_rmul_2 _ _) (int_rmul_tuple 1 t l its.toArray n dd sl)
      ⟨ho, rfl, ⟨_, ho, rfl⟩, call_meets PySem.F.slot_tuple_mul ⟨_, ho, rfl⟩ PySem.F.entry_tuple_mul (PySem.F.args_tuple_mul_2 _ _) (tuple_mul1 l its.toArray n dd sl t) ⟨ho, ?_⟩⟩)
  exact ⟨.ref l, H, I, rfl, q⟩
end Zr
/-- tuple * int, and what mulX has -/
def mulT (x y : AV) (S : Store) : Ans := match x with
  | .tup xs => match y with
    | .int j => ⟨xs ≠ [] ∧ 1 ≤ j ∧ j ≤ 1000 ∧ xs.length ≤ 1000, .tup (List.replicate j.toNat xs).flatten⟩
    | _ => badA
  | x => mulX x y S
theorem rels_rep {K : PySem.W.Frag} {H : Hp} {S : Store} {vs : List V} {ds : List AV} (r : RelAs K H S vs ds) : ∀ n : Nat, RelAs K H S (List.replicate n vs).flatten (List.replicate n ds).flatten
  | 0 => .nil
  | n + 1 => by
    rw [List.replicate_succ, List.replicate_succ, List.flatten_cons, List.flatten_cons]
    exact r.app (rels_rep r n)
theorem opr_or {X : Cx} {f : Value → Value → Sem Value} {r r' : R2} (h : OpR X f r) (h' : OpR X f r') : OpR X f fun x y H Q => r x y H Q ∨ r' x y H Q := fun pins s σ H x y v u Q I rx ry q => by
  rcases q with q | q
  · exact h pins s σ H x y v u Q I rx ry q
  · exact h' pins s σ H x y v u Q I rx ry q
theorem o_mulT {X : Cx} : OpR X (binaryOp .Mult) (lowO X.K mulT) := opr_weak (opr_or o_mulX (opr_or op_repT Zr.op_rep1)) fun x y H QH ⟨dx, dy, S, rx, ry, so, ok, k⟩ => by
  by_cases hx : ∃ xs, dx = .tup xs
  · obtain ⟨xs, rfl⟩ := hx
    cases dy with
    | int j =>
      obtain ⟨h1, h2, h3, h4⟩ := (show xs ≠ [] ∧ 1 ≤ j ∧ j ≤ 1000 ∧ xs.length ≤ 1000 from ok)
      obtain ⟨a, vs, rfl, hs, rs⟩ := rel_tupE rx
      obtain rfl := rel_intE ry
      by_cases e : j = 1
      · subst e
        refine .inr (.inr ⟨a, vs, rfl, rfl, hs, k _ H so .refl ?_⟩)
        show RelA X.K H S (.ref a) (.tup (List.replicate 1 xs).flatten)
        rw [show (List.replicate 1 xs).flatten = xs by simp]
        exact rx
      · refine .inr (.inl ⟨a, j, vs, rfl, rfl, hs, fun z => h1 (List.eq_nil_of_length_eq_zero (by rw [← rs.length, z]; rfl)), by omega, h3, by rw [rs.length]; exact h4, fun p hp => ?_⟩)
        exact k _ _ (stok_new so hp) (step_new so hp) (rel_tup so hp (rels_rep rs _))
    | _ => exact ok.elim
  · refine .inl ⟨dx, dy, S, rx, ry, so, ?_, ?_⟩
    · cases dx <;> first | exact ok | exact absurd ⟨_, rfl⟩ hx
    · cases dx <;> first | exact k | exact absurd ⟨_, rfl⟩ hx
theorem mulT_ti {xs : List AV} {j : Int} {S : Store} : mulT (.tup xs) (.int j) S = ⟨xs ≠ [] ∧ 1 ≤ j ∧ j ≤ 1000 ∧ xs.length ≤ 1000, .tup (List.replicate j.toNat xs).flatten⟩ := rfl
theorem mulT_ii {i j : Int} {S : Store} : mulT (.int i) (.int j) S = ⟨CMulB i j, .int (i * j)⟩ := mulX_ii (S := S)
theorem mulT_si {z : Str} {j : Int} {S : Store} : mulT (.str z) (.int j) S = ⟨z.length * j.toNat ≤ 16777216 ∧ -(2 ^ 63) ≤ j ∧ j ≤ 16777216, .str (Txt.mul z j)⟩ := mulX_si (S := S)
theorem mulT_li {xs : List AV} {j : Int} {S : Store} : mulT (.lst xs) (.int j) S = ⟨-(2 ^ 63) ≤ j ∧ j < 2 ^ 63 ∧ xs.length * j.toNat ≤ sizeLine, .lst (List.replicate j.toNat xs).flatten⟩ := mulX_li (S := S)
end L3
namespace L3
open PySem L2 PyProof.Rows
theorem u1 {n : Nat} (h : n + 64 < cLine) : n + 1 < cLine := by omega
section
variable {bb : Birth} {X : Cx} {o i : Expr} {to ti : AE} {pos : Pos}
/-- k in d as a test -/
def aDInT (b : Bool) (ti to : AE) : AT := fun τ S Q => ti τ S fun y S1 => to τ S1 fun x S2 => ∃ a kvs k, x = .ref a ∧ S2 a = some (.dK kvs) ∧ y = kA k ∧ Q (if b = true then (valA kvs k).isSome else !(valA kvs k).isSome) S2
theorem valA_some {K : PySem.W.Frag} {H : Hp} {S : Store} (k : Key) {ws : List (Key × V)} {kvs : List (Key × AV)} (h : RelD K H S ws kvs) : (valV ws k).isSome = (valA kvs k).isSome := by
  rcases rel_val k h with ⟨e1, e2⟩ | ⟨v, d, e1, e2, _⟩ <;> rw [e1, e2] <;> rfl
theorem t_din (hu : X.A.units + 1 < cLine) (hi : PE X i (low (kx X bb) ti)) (ho : PE X o (low (kx X bb) to)) (h1 : behindInMarks .In o = false := by first | exact nobehind _ (by decide) (by decide) | rfl) : PT X (.Compare i [.In] [o] pos) (lowT (kx X bb) (aDInT true ti to)) :=
  (pt_cmp (pc_din hu hi ho) h1).weak fun σ H QH ⟨τ, S, Q, R, so, q, k⟩ => ⟨τ, S, _, R, so, q, fun y' H1 y S1 so1 st1 r1 q1 => ⟨τ, S1, _, R.step st1, so1, q1, fun u H2 x S2 so2 st2 r2 ⟨a, kvs, kk, ex, hs2, ey, q2⟩ => by
    subst ex ey
    obtain rfl := rel_refE r2
    obtain rfl := rel_kE r1
    obtain ⟨ws, h, e, q⟩ := so2 a _ hs2
    refine ⟨a, _, rfl, DGet.k h, _, rfl, ?_⟩
    rw [valA_some kk (⟨e, q⟩ : RelD X.K H2 S2 ws kvs)]
    exact k _ H2 S2 so2 (st1.trans st2) q2⟩⟩
theorem t_dnin (hu : X.A.units + 1 < cLine) (hi : PE X i (low (kx X bb) ti)) (ho : PE X o (low (kx X bb) to)) (h1 : behindInMarks .NotIn o = false := by first | exact nobehind _ (by decide) (by decide) | rfl) : PT X (.Compare i [.NotIn] [o] pos) (lowT (kx X bb) (aDInT false ti to)) :=
  (pt_cmp (pc_dnotin hu hi ho) h1).weak fun σ H QH ⟨τ, S, Q, R, so, q, k⟩ => ⟨τ, S, _, R, so, q, fun y' H1 y S1 so1 st1 r1 q1 => ⟨τ, S1, _, R.step st1, so1, q1, fun u H2 x S2 so2 st2 r2 ⟨a, kvs, kk, ex, hs2, ey, q2⟩ => by
    subst ex ey
    obtain rfl := rel_refE r2
    obtain rfl := rel_kE r1
    obtain ⟨ws, h, e, q⟩ := so2 a _ hs2
    refine ⟨a, _, rfl, DGet.k h, _, rfl, ?_⟩
    rw [valA_some kk (⟨e, q⟩ : RelD X.K H2 S2 ws kvs)]
    exact k _ H2 S2 so2 (st1.trans st2) q2⟩⟩
end
end L3
namespace L3
open PySem L2 PyProof.Rows
theorem aFor_enumT {t : AA} {ag : AG} {tb : AS} {D : AEnds} {τ : ASt} {S : Store} : aFor (aiEnumT t) ag tb D τ S = t τ S fun ds S1 => ∃ xs, ds = [.tup xs] ∧ ForGo ag tb D τ (enumA xs) S1 := rfl
theorem aFor_zip {t : AA} {ag : AG} {tb : AS} {D : AEnds} {τ : ASt} {S : Store} : aFor (aiZip t) ag tb D τ S = t τ S fun ds S1 => ∃ d1 d2 xs ys, ds = [d1, d2] ∧ seqA S1 d1 = some xs ∧ seqA S1 d2 = some ys ∧ ForGoL ag tb D τ (fun S2 => seqA S2 d1 = some xs ∧ seqA S2 d2 = some ys) (zipA xs ys) S1 := rfl
theorem aLcP_enumT {t : AA} {tt : AT} {te : AE} {j k : Nat} {vs : List Nat} {τ : ASt} {S : Store} {Q : AK} : aLcP (aiEnumT t) j k tt te vs τ S Q = t τ S fun ds S1 => ∃ xs, ds = [.tup xs] ∧ LcGoP tt te j k vs τ Q (fun _ => True) (enumA xs) S1 := rfl
theorem aLcP_zip {t : AA} {tt : AT} {te : AE} {j k : Nat} {vs : List Nat} {τ : ASt} {S : Store} {Q : AK} : aLcP (aiZip t) j k tt te vs τ S Q = t τ S fun ds S1 => ∃ d1 d2 xs ys, ds = [d1, d2] ∧ seqA S1 d1 = some xs ∧ seqA S1 d2 = some ys ∧ LcGoP tt te j k vs τ Q (fun S2 => seqA S2 d1 = some xs ∧ seqA S2 d2 = some ys) (zipA xs ys) S1 := rfl
/-- what is returned beside a thing that came anew -/
theorem rt_newO {Q : AK} {d : AV} {S : Store} {l : Addr} {o : AO} (hl : S l = none) (ho : o ≠ .hid) (q : Q d S) : RtW Q d (updS S l o) :=
  rt_sub (Sub.new Sub.refl hl (by rw [hl]; intro z; cases z) ho) q
theorem enumA_map {α : Type} (f : α → AV) (l : List α) : enumA (l.map f) = l.mapIdx fun i x => .tup [.int (i : Nat), f x] := by
  unfold enumA
  exact List.ext_getElem (by simp) fun i h1 h2 => by simp
end L3
namespace L3
open PySem L2 PyProof.Rows
theorem neA_nats {ns ms : List Nat} {S : Store} : neA (.lst (ns.map fun n => .int (n : Nat))) (.lst (ms.map fun n => .int (n : Nat))) S = ⟨True, .bl (!decide (ns = ms))⟩ := by
  have h := eqA_nats (ns := ns) (ms := ms) (S := S)
  have h1 : (okD S (.lst (ns.map fun n => .int (n : Nat))) ∧ okD S (.lst (ms.map fun n => .int (n : Nat)))) = True := congrArg Ans.ok h
  have h2 : AV.bl (PyData.eqv (datA S (.lst (ns.map fun n => .int (n : Nat)))) (datA S (.lst (ms.map fun n => .int (n : Nat))))) = .bl (decide (ns = ms)) := congrArg Ans.v h
  have h3 : PyData.eqv (datA S (.lst (ns.map fun n => .int (n : Nat)))) (datA S (.lst (ms.map fun n => .int (n : Nat)))) = decide (ns = ms) := by injection h2
  show (⟨okD S (.lst (ns.map fun n => .int (n : Nat))) ∧ okD S (.lst (ms.map fun n => .int (n : Nat))), .bl (!PyData.eqv (datA S (.lst (ns.map fun n => .int (n : Nat)))) (datA S (.lst (ms.map fun n => .int (n : Nat)))))⟩ : Ans) = _
  rw [h1, h3]
theorem neA_nats0 {ns : List Nat} {S : Store} : neA (.lst (ns.map fun n => .int (n : Nat))) (.lst []) S = ⟨True, .bl (!decide (ns = []))⟩ := neA_nats (ms := [])
theorem eqA_nats0 {ns : List Nat} {S : Store} : eqA (.lst (ns.map fun n => .int (n : Nat))) (.lst []) S = ⟨True, .bl (decide (ns = []))⟩ := eqA_nats (ms := [])
theorem ix_lastA {xs : List AV} {y : AV} {S : Store} : ixA (.lst (xs ++ [y])) (.int (-1)) S = ⟨True, y⟩ := by
  have e := atI_last xs y
  show ixL (some (xs ++ [y])) (.int (-1)) = _
  exact ans_tt (by rw [e]; rfl) (by rw [e]; rfl)
end L3
namespace L3
open PySem L2 PyProof.Rows
/-- a loose text of the top -/
theorem gS_loose {p : Program} {lv : List (Str × PySem.W.WData)} {mg : Str → Option Value} {h : Heap} {x : Str} {i : Str} (hX : PySem.W.XL p lv mg h) (hm : (x, PySem.W.WData.str i) ∈ lv) : ∃ t, mg x = some (.str i t) := by
  obtain ⟨v, a, b⟩ := hX.2.val _ hm
  cases b
  exact ⟨_, a⟩
end L3

set_option Elab.async false
set_option linter.all false
set_option maxRecDepth 100000
set_option maxHeartbeats 2000000
set_option autoImplicit false
/-! L4L: lambdas without parameters: made, kept in the store, handed to a def, called there. -/
namespace L3
open PySem L2 PyProof.Rows
variable {bb : Birth}
theorem fz_ok {P : Program} {w : World} {H : Hp} {h : Heap} {a : Addr} {o : Obj} (e : h.get? a = some o) : ObjOk P w H h a (fz o) := ⟨e, trivial, ⟨o, e⟩, fun _ _ _ _ => trivial⟩
theorem fz_get {P : Program} {w : World} {H : Hp} {h : Heap} {a : Addr} {o : Obj} (hk : HOk P w H h) (e : H a = some (fz o)) : h.get? a = some o := (hk a _ e).1
/-- a def's lambdas, from left to right -/
def lamsE : Nat → Expr → List Expr
  | 0, _ => []
  | _ + 1, .Lambda a b c d => [.Lambda a b c d]
  | n + 1, .Call f as _ _ => lamsE n f ++ as.flatMap (lamsE n)
  | n + 1, .Tuple es _ _ => es.flatMap (lamsE n)
  | n + 1, .List es _ => es.flatMap (lamsE n)
  | n + 1, .Starred e _ => lamsE n e
  | n + 1, .IfExp a b c _ => lamsE n a ++ lamsE n b ++ lamsE n c
  | n + 1, .Attribute e _ _ => lamsE n e
  | n + 1, .Compare l _ rs _ => lamsE n l ++ rs.flatMap (lamsE n)
  | n + 1, .BoolOp _ vs _ => vs.flatMap (lamsE n)
  | n + 1, .UnaryOp _ e _ => lamsE n e
  | n + 1, .BinOp l _ r _ => lamsE n l ++ lamsE n r
  | n + 1, .Subscript e i _ => lamsE n e ++ lamsE n i
  | _ + 1, _ => []
def lamsT : Nat → Stmt → List Expr
  | 0, _ => []
  | n + 1, .Expr e _ => lamsE n e
  | n + 1, .Assign _ e _ => lamsE n e
  | n + 1, .Return (some e) _ => lamsE n e
  | n + 1, .If t b o _ => lamsE n t ++ b.flatMap (lamsT n) ++ o.flatMap (lamsT n)
  | n + 1, .For _ i b o _ => lamsE n i ++ b.flatMap (lamsT n) ++ o.flatMap (lamsT n)
  | n + 1, .While t b o _ => lamsE n t ++ b.flatMap (lamsT n) ++ o.flatMap (lamsT n)
  | _ + 1, _ => []
def lamN (st : Stmt) (i : Nat) : Expr := ((defBody st).flatMap (lamsT 30)).getD i (.Lambda default (.Constant .none 0 ⟨0, 0, 0, 0⟩) default ⟨0, 0, 0, 0⟩)
def lamP (e : Expr) : Arguments := match e with
  | .Lambda a _ _ _ => a
  | _ => default
def lamB (e : Expr) : Expr := match e with
  | .Lambda _ b _ _ => b
  | e => e
def lamSc (e : Expr) : Scope := match e with
  | .Lambda _ _ c _ => c
  | _ => default
/-- fewer frames, where the others are newer than the heap -/
theorem un_less {fs fs' ex : List Addr} {H H' : Hp} {h h' : Heap} (u : Un fs' ex H H' h h') (hs : ∀ b ∈ fs', b ∈ fs ∨ h.objs.size ≤ b) : Un fs ex H H' h h' where
  keep := fun b o e n hb hx => u.keep b o e n (fun z => (hs b z).elim hb fun le => Nat.lt_irrefl _ (Nat.lt_of_lt_of_le (Heap.lt_size e) le)) hx
  slot := fun b o e n _ hx => u.any e n hx
  free := u.free
  there := u.there
  tups := u.tups
  frzs := u.frzs
  tbls := u.tbls
/-- the lambda's record, made in X -/
abbrev lamOf (X : Cx) (ps : Arguments) (body : Expr) (sc : Scope) : LamD := ⟨X.env.qual ++ "<lambda>", ps, body, sc, cloFrom X.env.cells sc.names []⟩
/-- lambda: e -/
def aLam (P : Addr) (L : LamD) : AE := fun _ S Q => S P = some (.tab L.q) ∧ ∀ f, S f = none → Q (.ref f) (updS S f (.lam L))
section
variable {X : Cx} {c P : Addr} {ps : Arguments} {body : Expr} {sc : Scope} {pos : Pos}
theorem e_lam (TB : LamX.TabB X.base X.mg c P) (hc : X.env.code = .ref c) (hL : LamX.LamS X.env.scope sc) (hdef : defaultsOf ps X.env = ([], []) := by rfl) : PE X (.Lambda ps body sc pos) (low (kx X bb) (aLam P (lamOf X ps body sc))) := by
  refine ⟨fun pins s σ H QH I ⟨τ, S, Q, R, so, ⟨hP, q⟩, k⟩ => ?_⟩
  obtain ⟨tb, hT, tri, among⟩ := so P _ hP
  refine PySem.W.kla_eval hdef ?_
  have bP : s.heap.BuiltinsAt X.mg P := TB.bm.keeps I.bk
  have gP : s.heap.get? P = some { cls := .none, data := .fields tb } := I.hok P _ hT
  -- the function object is laid over a state in which the code object is known
  have fin : ∀ (H1 : Hp) (h1 : Heap) (tk : Nat) (c' : Addr) (ctv : Value), Inv X pins σ H1 { s with heap := h1, toks := tk } → StOk X.K H1 S → Step H S H1 S → H1 c' = some (LamX.CodeO c' (X.env.qual ++ "<lambda>")) → S c' = none →
      ∀ tk', EP X pins σ QH (.ref h1.objs.size) { s with heap := h1.push (PySem.W.kla_obj "<lambda>" (X.env.qual ++ "<lambda>") ps body sc (cloFrom X.env.cells sc.names []) ((X.mg "__name__").getD .none) c' ctv), toks := tk' } := by
    intro H1 h1 tk c' ctv J so1 st1 hc1 nc tk'
    have nf : H1 h1.objs.size = none := J.hok.fresh (Nat.le_refl _)
    have J2 := J.laid (a := h1.objs.size) (o := fz ((lamOf X ps body sc).obj ((X.mg "__name__").getD .none) c' ctv)) (t' := tk') (h' := h1.push ((lamOf X ps body sc).obj ((X.mg "__name__").getD .none) c' ctv)) (fun b u e => Heap.get?_push_of_some _ e) (Nat.le_refl _) (fz_ok (Heap.get?_push_size _ rfl))
    have ne : c' ≠ h1.objs.size := ne_of_none hc1 nf
    exact ⟨.ref h1.objs.size, _, J2, rfl, k _ _ (.ref h1.objs.size) _ (stok_put (u := .lam (lamOf X ps body sc)) so1 nf ⟨c', _, ctv, upd_same, by rw [upd_ne ne]; exact hc1, by rw [updS_ne ne]; exact nc⟩) (st1.trans (step_put so1 nf)) (.ref _) (q _ (so1.fresh nf))⟩
  cases hcd : codeAmong pos tb.toList with
  | some cv =>
    obtain ⟨c', rfl, hco, nc⟩ := among pos cv hcd
    refine PySem.W.kla_makeFunctionHit (mg := X.mg) (c := c) (P := P) (ps := tb) (closure_ok (hL.has I.ok)) I.ok.glob (I.mod.glob.keeps I.bk) hc (TB.code.keeps I.bk) gP tri hcd bP fun ctv h1 tk hx hsz => ?_
    exact fin H h1 tk c' ctv (I.kept fun b o e => hx b o e) so .refl hco nc tk
  | none =>
    refine PySem.W.kla_makeFunction (mg := X.mg) (c := c) (P := P) (ps := tb) (closure_ok (hL.has I.ok)) I.ok.glob (I.mod.glob.keeps I.bk) hc (TB.code.keeps I.bk) gP tri hcd TB.gP bP fun c' ctv h1 tk hx hge hlt hrec htb => ?_
    obtain ⟨c2, oc, vs, t, e2, hoc, hd, hv⟩ := hrec
    cases e2
    have nC : H c' = none := I.hok.fresh hge
    have nPc : P ≠ c' := ne_of_none hT nC
    have J := LamX.inv_table (t' := tk) (more := #[rawInt pos.line, rawInt pos.col, .ref c']) (h' := h1) I hT (fun b o hb e => hx b o hb e) htb hge ⟨oc, vs, t, hoc, hd, hv⟩
    have st : Step H S (upd (upd H P (.tbl (tb ++ #[rawInt pos.line, rawInt pos.col, .ref c']))) c' (LamX.CodeO c' (X.env.qual ++ "<lambda>"))) S := by
      refine ⟨fun a o n h => ⟨?_, n⟩, fun a h => ⟨?_, h⟩⟩
      · have n1 : a ≠ P := by rintro rfl; rw [hP] at n; cases n
        rw [upd_ne (ne_of_none h nC), upd_ne n1]
        exact h
      · have n1 : a ≠ P := by rintro rfl; rw [hP] at h; cases h
        obtain ⟨u, hu⟩ := so.some h
        rw [upd_ne (ne_of_none hu nC), upd_ne n1]
    have eL : (tb ++ #[rawInt pos.line, rawInt pos.col, .ref c']).toList = tb.toList ++ [rawInt pos.line, rawInt pos.col, .ref c'] := by simp
    refine fin _ h1 tk c' ctv J (fun a o e => ?_) st upd_same (so.fresh nC) tk
    by_cases z : a = P
    · subst z
      rw [hP] at e
      cases e
      refine ⟨_, by rw [upd_ne nPc, upd_same], by rw [eL]; exact PySem.TriplesOk_snoc _ _ _ _ tri, fun p' cv hcv => ?_⟩
      rw [eL] at hcv
      rcases LamX.among_app _ tri hcv with y | y
      · obtain ⟨c0, e1, e2, e3⟩ := among p' cv y
        exact ⟨c0, e1, (st.old c0 _ e3 e2).1, e3⟩
      · exact ⟨c', y, upd_same, so.fresh nC⟩
    · obtain ⟨u, hu⟩ := so.some e
      exact (so a o e).step st (by rw [upd_ne (ne_of_none hu nC), upd_ne z])
end
/-- the context of a lambda's body -/
def lamCxN (X : Cx) (A : Around) (outer : List Env) (s : Shared) (H : Hp) (E : XK) (sc : Scope) (f c' : Addr) : Cx := (LamX.lamCx X A outer s H (fun _ _ _ => False) sc f c').wish fun e s' =>
  wpAny (model X.prog X.w) (A.deeper (LamX.lamEnv X sc s.heap.objs.size f c')) (leaving (LamX.lamEnv X sc s.heap.objs.size f c') e) (fun _ s'' => L2N.CX X.prog X.w outer H s E e s'') (fun e' s'' => L2N.CX X.prog X.w outer H s E e' s'') s'
/-! ### what a call of a thing does, from a moment on -/
abbrev TL := Store → AK → (Addr → AV → Store → Prop) → Prop
structure Callable (P : Program) (w : World) (K : PySem.W.Frag) (mg : Str → Option Value) (base : Heap) (k : Nat) (out : List Env) (s : Shared) (H : Hp) (S : Store) (f : Addr) (tl : TL) : Prop where
  fn : ∃ fd : FuncData, H f = some (fz { cls := .type "function", data := .func fd })
  go : ∀ (A : Around), A.guards = some [] → Room k A → ∀ (out' : List Env) (s' : Shared) (H' : Hp) (S' : Store) (Q : VK) (E : XK) (QA : AK) (EX : Addr → AV → Store → Prop), Env0 P w K mg base A out' s' H' → Un (frs out) [] H H' s.heap s'.heap → Step H S H' S' → StOk K H' S' → tl S' QA EX →
    (∀ d S2 v H2, StOk K H2 S2 → Step H' S' H2 S2 → RelA K H2 S2 v d → QA d S2 → Q v H2) → (∀ C d v H2 S2, StOk K H2 S2 → Step H' S' H2 S2 → XdIs K H2 S2 d v → EX C v S2 → E (.ref C) (some d) H2) →
    codeAny (model P w) A (.call (.ref f) ⟨[], []⟩) (CR (L2N.CX P w) out' P w H' s' Q E) s'
theorem Callable.later {P : Program} {w : World} {K : PySem.W.Frag} {mg : Str → Option Value} {base : Heap} {k j : Nat} {out out2 : List Env} {s s2 : Shared} {H H2 : Hp} {S S2 : Store} {f : Addr} {tl : TL} (c : Callable P w K mg base k out s H S f tl) (un : Un (frs out) [] H H2 s.heap s2.heap)
    (st : Step H S H2 S2) (hs : ∀ b ∈ frs out, b ∈ frs out2) (hs' : ∀ b ∈ frs out2, b ∈ frs out ∨ s.heap.objs.size ≤ b) (hj : k ≤ j) : Callable P w K mg base j out2 s2 H2 S2 f tl :=
  ⟨let ⟨fd, h⟩ := c.fn; ⟨fd, un.frzs _ _ _ h⟩, fun A hg hr out' s' H' S' Q E QA EX e0 u stp so q k1 k2 => c.go A hg (hr.mono hj) out' s' H' S' Q E QA EX e0 (un_less ((un.mono hs fun _ z => z).trans u) hs') (st.trans stp) so q k1 k2⟩
section
variable {X : Cx} {pins : List (Addr × Obj)} {σ : L2.St} {τ : ASt} {H : Hp} {s : Shared} {S : Store} {f : Addr} {ps : Arguments} {body : Expr} {sc : Scope} {k : Nat} {ae : EXw → AE}
/-- a lambda of X's that stands in the store, from a moment of X on -/
theorem lam_callable (I : Inv X pins σ H s) (R : Rp (kx X bb) H S σ τ) (so : StOk X.K H S) (hf : S f = some (.lam (lamOf X ps body sc))) (hL : LamX.LamS X.env.scope sc)
    (hbind : ∀ (q : Str) (cl : List (Str × Addr)) (pm cv ctv : Value), bindArgs (PySem.W.kla_fn "<lambda>" q ps body sc cl pm cv ctv) ⟨[], []⟩ = pure [])
    (hbody : ∀ (A : Around), A.guards = some [] → ∀ (outer : List Env) (s1 : Shared) (H1 : Hp) (E : XK) (f c' : Addr) (b : Birth) (EX : EXw), Room k (A.deeper (LamX.lamEnv X sc s1.heap.objs.size f c')) → TkX (lamCxN X A outer s1 H1 E sc f c') b EX → PE (lamCxN X A outer s1 H1 E sc f c') body (low ⟨X.K, b⟩ (ae EX))) :
    Callable X.prog X.w X.K X.mg X.base (k + 1) X.stack s H S f (fun S' Q' EX' => ae (fun _ => EX') τ S' Q') := by
  obtain ⟨c', pm, ctv, hF, hC, nC⟩ := so f _ hf
  refine ⟨⟨_, hF⟩, fun A hg hr out' s' H' S' Q E QA EX e0 un st so' q k1 k2 => ?_⟩
  have hF' := un.frzs _ _ _ hF
  have of1 := fz_get e0.hok hF'
  obtain ⟨⟨oc, vs, t, hoc, hdc, hvc⟩, _, _⟩ := e0.hok c' _ (st.old c' _ nC hC).1
  refine PySem.W.kla_callFunE hr.depth of1 rfl hL.co hL.gen rfl ⟨c', oc, vs, t, rfl, hoc, hdc, hvc⟩ ?_
  rw [hbind]
  have nol : s'.heap.NoLimit := e0.mod.nolimit.keeps fun b o z => (e0.bs b o z).1
  refine wpAny_pure (wpAny_newFunctionEnv (fun y hy => (hL.own y hy).2) (fun y hy => absurd hy (by simp)) (fun h₁ hns hsb => ⟨nol.fresh _ hsb, ?_⟩) hL.kind)
  show codeAny _ _ (.expr body (LamX.lamEnv X sc s'.heap.objs.size f c')) _ _
  have kp : ∀ b o, s'.heap.get? b = some o → h₁.get? b = some o := fun b o e => hsb.extBut b o (Nat.ne_of_lt (Heap.lt_size e)) (Heap.get?_push_of_some _ e)
  have J := LamX.lam_start2 (E := fun _ _ _ => False) (f := f) (c' := c') (tk := s'.toks + ([] : List (Str × Value)).length) I hL e0 hr.hd un hns kp
  have tk : TkX (lamCxN X A out' s' H' E sc f c') (bornAt H' S') (fun _ => EX) := ⟨⟨fun cls d _ H => E cls d H, L2N.takes_of rfl rfl rfl rfl, fun C d v σ τ H2 S2 R2 so2 xd ex => k2 C d v H2 S2 so2 R2.bt xd ex⟩⟩
  have R' : Rp ⟨X.K, bornAt H' S'⟩ H' S' σ τ := (R.step st).re rfl Step.refl
  refine PySem.W.kla_codeExpr (wpAny_mono ((hbody A hg out' s' H' E f c' _ _ (hr.deeper _) tk).run [] _ σ H' Q (J.wish _) ⟨τ, S', QA, R', so', q, fun v H2 d S2 so2 st2 r2 q2 => k1 d S2 v H2 so2 st2 r2 q2⟩) (fun v s'' hq => ?_) fun e s'' hq => hq)
  obtain ⟨w', H2, J2, rv, q2⟩ := hq
  exact ⟨w', H2, J2.os, J2.bare, J2.base, J2.hok, rv, q2⟩
end
end L3

set_option Elab.async false
set_option linter.all false
set_option maxRecDepth 100000
set_option maxHeartbeats 2000000
set_option autoImplicit false
/-! L4M: defs that get a thing that is called, and hand it on; defs that make lambdas; the end with tables of code objects. -/
namespace L3
open PySem L2 PyProof.Rows
variable {bb : Birth}
/-! ### promises of defs that get a callable, at the place j of their arguments -/
structure FnGL (P : Program) (w : World) (K : PySem.W.Frag) (mg : Str → Option Value) (base : Heap) (k kk : Nat) (f : Addr) (fd : FuncData) (ps : List Str) (j : Nat) (asp : TL → ASpX) : Prop where
  len : ∀ tl ds S Q E, asp tl ds S Q E → ds.length = ps.length
  go : ∀ (A : Around), A.guards = some [] → Room k A → ∀ (out : List Env) (s : Shared) (H : Hp) (S : Store) (ar : Args) (us : List Value) (vs : List V) (ds : List AV) (Q : VK) (E : XK) (QA : AK) (EX : Addr → AV → Store → Prop) (g : Addr) (tl : TL),
    Env0 P w K mg base A out s H → BindsTo s fd ar (ps.zip us) → Vals vs us → RelAs K H S vs ds → StOk K H S → ds[j]? = some (.ref g) → Callable P w K mg base kk out s H S g tl → asp tl ds S QA EX →
    (∀ d S' v H', StOk K H' S' → Step H S H' S' → RelA K H' S' v d → QA d S' → Q v H') → (∀ C d v H' S', StOk K H' S' → Step H S H' S' → XdIs K H' S' d v → EX C v S' → E (.ref C) (some d) H') →
    codeAny (model P w) A (.call (.ref f) ar) (fun r s' => CR (L2N.CX P w) out P w H s Q E r s') s
section
variable {P : Program} {w : World} {K : PySem.W.Frag} {mg : Str → Option Value} {base : Heap}
theorem rt_of {H : Hp} {S : Store} {QA : AK} {QH : VK} (k : ∀ d S' v H', StOk K H' S' → Step H S H' S' → RelA K H' S' v d → QA d S' → QH v H') : ∀ v H' d S', StOk K H' S' → Step H S H' S' → RelA K H' S' v d → RtW QA d S' → QH v H' := fun v H' d S' so' st' r' ⟨d2, S2, sb, hd, q2⟩ => by
  rcases hd with rfl | ⟨l, ds, rfl, hl, hn, rfl⟩
  · exact k d2 S2 v H' (so'.sub sb) (st'.subR sb) (r'.sub sb) q2
  · obtain rfl := rel_refE r'
    obtain ⟨vs, hv, rv⟩ := so' l _ hl
    exact k _ S2 _ H' (so'.sub sb) (st'.subR sb) (.lst hv hn (rv.sub sb)) q2
/-- THE RULE for a def that gets a callable -/
theorem _root_.L2.Fun.ok4L {x qual : Str} {st : Stmt} {f : Addr} {fd : FuncData} {N ps : List Str} {k kk j : Nat} {asp : TL → ASpX} (F : L2.Fun K x qual st f fd) (Sc : FnScope N ps (defScope st)) (len : ∀ tl ds S Q E, asp tl ds S Q E → ds.length = ps.length)
    (hbody : ∀ (cdv : Value) (A : Around), A.guards = some [] → ∀ (outer : List Env) (s : Shared) (H : Hp) (E : XK) (S : Store) (EX : EXw) (g : Addr) (tl : TL), Room k (A.deeper (envOfC qual (defScope st) s.heap.objs.size f cdv)) → TkX (cxOf (L2N.CX P w) P w K mg base N qual (defScope st) f cdv A outer s H E) (bornAt H S) EX →
      PassesOwn (model P w) (cxOf (L2N.CX P w) P w K mg base N qual (defScope st) f cdv A outer s H E).A (cxOf (L2N.CX P w) P w K mg base N qual (defScope st) f cdv A outer s H E).env (cxOf (L2N.CX P w) P w K mg base N qual (defScope st) f cdv A outer s H E).xe →
      Callable P w K mg base kk outer s H S g tl →
      ∃ as, PSs (cxOf (L2N.CX P w) P w K mg base N qual (defScope st) f cdv A outer s H E) (defBody st) (lowS ⟨K, bornAt H S⟩ as) ∧ ∀ ds Q EX', ds[j]? = some (.ref g) → asp tl ds S Q EX' → (∀ τ C v S', EX' C v S' → EX τ C v S') → as { nx := fun _ S' => RtW Q .non S', rt := RtW Q } (startA N ds) S) :
    FnGL P w K mg base (k + 1) kk f fd ps j asp := by
  obtain ⟨oc, od, kV, doc, pm, an, cdv, ct, osl, rfl, lk, hcd⟩ := F.ex
  refine ⟨len, fun A hgd hr out s H S ar us vs ds Q E QA EX g tl e0 hb rv ra so hj hc q k1 k2 => ?_⟩
  refine LamX.run_ofS lk hcd Sc hr e0 hb rv (ra.length.trans (len _ _ _ _ _ q)) fun hr' => ?_
  have tk : TkX (cxOf (L2N.CX P w) P w K mg base N qual (defScope st) f cdv A out s H E) (bornAt H S) (fun _ C v S' => EX C v S') := ⟨⟨fun cls d _ H => E cls d H, L2N.takes_of rfl rfl rfl rfl, fun C d v σ τ H' S' R so' xd ex => k2 C d v H' S' so' R.bt xd ex⟩⟩
  obtain ⟨as, hp, ha⟩ := hbody cdv A hgd out s H E S _ g tl hr' tk (passes_of rfl) hc
  have rt := rt_of k1
  exact ⟨_, hp, startA N ds, S, _, rp_start (k := ⟨K, bornAt H S⟩) Step.refl ra, so, ha ds QA EX hj q (fun _ _ _ _ h => h), fun σ' H' τ' S' so' st' _ q' => rt .non H' .non S' so' st' .non q', rt, fun _ _ _ _ _ _ _ z => z.elim, fun _ _ _ _ _ _ _ z => z.elim⟩
/-- a def that makes lambdas: its code object is known -/
theorem _root_.L2.Fun.ok4T {x qual : Str} {st : Stmt} {f : Addr} {fd : FuncData} {N ps : List Str} {k : Nat} {asp : ASp} {cd : Value} (F : L2.Fun K x qual st f fd) (S : FnScope N ps (defScope st)) (len : ∀ ds S Q, asp ds S Q → ds.length = ps.length) (hcode : fd.code = cd)
    (hbody : ∀ (A : Around), A.guards = some [] → ∀ (outer : List Env) (s : Shared) (H : Hp) (E : XK), Room k (A.deeper (envOfC qual (defScope st) s.heap.objs.size f cd)) →
      ∃ as, PSs (cxOf CX0 P w K mg base N qual (defScope st) f cd A outer s H E).nox (defBody st) (lowS ⟨K, b0⟩ as) ∧ ∀ ds S Q, asp ds S Q → as { nx := fun _ S' => RtW Q .non S', rt := RtW Q } (startA N ds) S) : FnG P w K mg base (k + 1) f fd ps (spOf K asp) := by
  obtain ⟨oc, od, kV, doc, pm, an, cdv, ct, osl, rfl, lk, hcd⟩ := F.ex
  obtain rfl : cdv = cd := hcode
  refine ⟨fun vs H Q E h => by obtain ⟨ds, S, Q', r, so, q, _⟩ := h; rw [r.length]; exact len ds S Q' q, fun A hgd hr out s H ar us vs QH E e0 hb rv h => ?_⟩
  obtain ⟨ds, S, Q, r, so, q, k1⟩ := h
  refine LamX.run_ofS lk hcd ‹_› hr e0 hb rv (r.length.trans (len _ _ _ q)) fun hr' => ?_
  obtain ⟨as, hp, ha⟩ := hbody A hgd out s H E hr'
  have rt := rt_of k1
  exact ⟨_, hp.nox, startA N ds, S, _, rp_start (k := ⟨K, b0⟩) trivial r, so, ha ds S Q q, fun σ' H' τ' S' so' st' _ q' => rt .non H' .non S' so' st' .non q', rt, fun _ _ _ _ _ _ _ z => z.elim, fun _ _ _ _ _ _ _ z => z.elim⟩
/-- such a def, with its promise -/
structure FnLX (P : Program) (w : World) (K : PySem.W.Frag) (mg : Str → Option Value) (base : Heap) (k kk : Nat) (x : Str) (ps : List Str) (j : Nat) (asp : TL → ASpX) : Prop where
  ex : ∃ (f : Addr) (fd : FuncData), FnGL P w K mg base k kk f fd ps j asp ∧ mg x = some (.ref f) ∧ PySem.W.keepIn K (.ref f) = true ∧ Binds K fd ps []
theorem FnLX.of {k kk j : Nat} {x : Str} {st : Stmt} {ps : List Str} {asp : TL → ASpX} (D : Def K mg x st ps) (h : ∀ f fd, L2.Fun K x x st f fd → FnGL P w K mg base k kk f fd ps j asp) : FnLX P w K mg base k kk x ps j asp := let ⟨f, fd, G, hm, hb⟩ := D.ex; ⟨f, fd, h f fd G, hm, G.kp, hb⟩
/-- the code object at c of the def x, its table at P -/
structure TabAt (K : PySem.W.Frag) (mg : Str → Option Value) (x : Str) (c P : Addr) : Prop where
  code : ∀ {f : Addr} {fd : FuncData} {st : Stmt}, mg x = some (.ref f) → L2.Fun K x x st f fd → fd.code = .ref c
  no : K.lookup P = none
def tabX (K : PySem.W.Frag) (x : Str) : Bool := match PySem.W.tabIn K x with
  | some (c, P) => (K.lookup P).isNone
  | none => false
theorem TabAt.of {p : Program} {loose : List Str} {mean : ExcName → Option Value} {mb : Str → Option Value} {h : Heap} {d : DefRec} {x : Str} (T : Top p loose mean mg mb h) (KX : K.In h) (hr : (recsOf p).find? (fun e => e.name == x) = some d) (ht : tabX K x = true) :
    ∃ c P, TabAt K mg x c P ∧ PySem.W.CodeHd h c P ∧ h.get? P = some { cls := .none, data := .fields #[] } := by
  unfold tabX at ht
  split at ht
  · rename_i c P e
    obtain ⟨h1, h2⟩ := PySem.W.tab_of T KX hr e
    refine ⟨c, P, ⟨fun {f fd st} hm F => ?_, by simpa using ht⟩, h1, h2⟩
    obtain ⟨oc, od, kV, doc, pm, an, cdv, ct, osl, rfl, lk, hcd⟩ := F.ex
    exact PySem.W.law_code KX T.g e hm (KX _ _ lk) rfl
  · cases ht
theorem FnX.ofT {k : Nat} {x : Str} {st : Stmt} {ps : List Str} {asp : ASp} {c Pt : Addr} (D : Def K mg x st ps) (t : TabAt K mg x c Pt) (h : ∀ f fd, L2.Fun K x x st f fd → fd.code = .ref c → FnG P w K mg base k f fd ps (spOf K asp)) : FnX P w K mg base k x st ps asp := let ⟨f, fd, G, hm, hb⟩ := D.ex; ⟨f, fd, G, h f fd G (t.code hm G), hm, hb⟩
end
/-! ### the callable called -/
def aCallV (j : Nat) (g : Addr) (tl : TL) (EX : EXw) : AE := fun τ S Q => τ[j]? = some (some (.ref g)) ∧ tl S Q (EX τ)
section
variable {Y : Cx} {k : Nat} {g : Addr} {tl : TL} {S0 : Store} {a : Str} {EX : EXw} {p1 p2 : Pos}
theorem e_callv (j : Nat) (cb : Callable Y.prog Y.w Y.K Y.mg Y.base k Y.outer Y.s_0 Y.H_0 S0 g tl) (hb : ∀ H S, bb.p H S → Step Y.H_0 S0 H S) (tk : TkX Y bb EX) (gd : Y.A.guards = some []) (hr : Room k Y.A) (hst : Y.stack = Y.env :: Y.outer := by rfl) (hfr : Y.env.frame = some Y.env.locals := by rfl) (hex : Y.ex = [] := by rfl)
    (hN : Y.N[j]? = some a := by rfl) (hv : Vis Y.env.scope a := by first | exact .inl rfl | exact .inr (.inl rfl)) (hd : (a == ("__debug__" : Str)) = false := by decide) (hcd : (a == ("__classdict__" : Str)) = false := by decide) :
    PE Y (.Call (.Name a p1) [] [] p2) (low (kx Y bb) (aCallV j g tl EX)) := by
  refine ⟨fun pins s σ H QH I ⟨τ, S, Q, R, so, ⟨hj, q⟩, kk⟩ => ?_⟩
  obtain ⟨v0, hv0, r0⟩ := R.at_ j _ hj
  obtain rfl := rel_refE r0
  refine wpAny_Call_Name_kw (thn ((pe_var (pos := p1) (i := j) hN hv hd hcd).run pins s σ H (fun v H1 => v = .ref g ∧ H1 = H) I ⟨.ref g, hv0, rfl, rfl⟩) fun u s1 ⟨v, H1, I1, r1, ev, eH⟩ => ?_)
  subst ev eH
  obtain rfl : u = Value.ref g := r1
  obtain ⟨fd, hF⟩ := cb.fn
  have un : Un (frs Y.outer) [] Y.H_0 H1 Y.s_0.heap s1.heap := by
    have z : Un Y.fs Y.ex Y.H_0 H1 Y.s_0.heap s1.heap := I1.base
    rw [hex] at z
    exact z
  obtain ⟨W, tw, hw⟩ := tk.ex
  refine PySem.W.callWith_F0 ⟨_, _, _, _, fz_get I1.hok (un.frzs _ _ _ hF)⟩ ?_
  refine wpAny_call (codeAny_mono (cb.go Y.A gd hr Y.stack s1 H1 S QH (fun cls d H' => W cls d σ H') Q (EX τ) I1.env0 un (hb _ _ R.bt) so q (fun d S2 v H2 so2 st2 r2 q2 => kk v H2 d S2 so2 st2 r2 q2) fun C d v H2 S2 so2 st2 xd ex => hw C d v σ τ H2 S2 (R.step st2) so2 xd ex) fun r s2 z => ?_)
  cases r with
  | error e => exact L2N.passAt tw σ pins H1 s1 e s2 I1 z
  | ok fl =>
    cases fl with
    | brk => exact z.elim
    | cont => exact z.elim
    | next => exact z.elim
    | ret u => exact I1.after z
/-- Z's callable, at a moment of Z's body: for the defs that Z calls -/
theorem callable_on {pins : List (Addr × Obj)} {σ : L2.St} {H : Hp} {s : Shared} {S : Store} {k2 : Nat} (cb : Callable Y.prog Y.w Y.K Y.mg Y.base k Y.outer Y.s_0 Y.H_0 S0 g tl) (I : Inv Y pins σ H s) (st : Step Y.H_0 S0 H S) (hk : k ≤ k2) (hst : Y.stack = Y.env :: Y.outer) (hfr : Y.env.frame = some Y.env.locals) (hex : Y.ex = []) :
    Callable Y.prog Y.w Y.K Y.mg Y.base k2 Y.stack s H S g tl := by
  have un : Un (frs Y.outer) [] Y.H_0 H Y.s_0.heap s.heap := by
    have z : Un Y.fs Y.ex Y.H_0 H Y.s_0.heap s.heap := I.base
    rw [hex] at z
    exact z
  have e : frs Y.stack = Y.env.locals :: frs Y.outer := by rw [hst]; unfold frs; rw [List.filterMap_cons, hfr]
  refine cb.later un st (fun b hb => by rw [e]; exact List.mem_cons_of_mem _ hb) (fun b hb => ?_) hk
  rw [e] at hb
  rcases List.mem_cons.mp hb with z | z
  · subst z
    exact .inr I.ok.above
  · exact .inl z
end
/-! ### a def that gets a callable is called -/
abbrev CALs := ASt → Store → Addr → TL → Prop
/-- f(.., g, ..), g at the place j -/
def aCallL (asp : TL → ASpX) (j : Nat) (cal : CALs) (EX : EXw) (t : AA) : AE := fun τ S Q => t τ S fun ds S1 => ∃ g tl, ds[j]? = some (.ref g) ∧ cal τ S1 g tl ∧ asp tl ds S1 Q (EX τ)
/-- what stands at the moment of the call -/
def CalOk (Y : Cx) (bb : Birth) (kk : Nat) (cal : CALs) : Prop := ∀ (pins : List (Addr × Obj)) (σ : L2.St) (τ : ASt) (H : Hp) (s : Shared) (S : Store) (g : Addr) (tl : TL), Inv Y pins σ H s → Rp (kx Y bb) H S σ τ → StOk Y.K H S → cal τ S g tl → Callable Y.prog Y.w Y.K Y.mg Y.base kk Y.stack s H S g tl
section
variable {X : Cx} {e : Expr} {es : List Expr} {t : AA} {pos p : Pos} {k kk j : Nat} {x : Str} {ps : List Str} {asp : TL → ASpX} {EX : EXw} {cal : CALs}
theorem f_callL (tk : TkX X bb EX) (F : FnLX X.prog X.w X.K X.mg X.base k kk x ps j asp) (hcal : CalOk X bb kk cal) (gd : X.A.guards = some []) (hr : Room k X.A) (ha : PA X (e :: es) (lowA (kx X bb) t)) (hg : Gl X x := by rfl)
    (hdb : (x == ("__debug__" : Str)) = false := by decide) (he : starEach (e :: es) X.env = (false, eval e X.env) :: starEach es X.env := by rfl) (hpl : (backTo pos (starEach es X.env)).any (·.1) = false := by rfl) :
    PE X (.Call (.Name x p) (e :: es) [] pos) (low (kx X bb) (aCallL asp j cal EX t)) := by
  obtain ⟨f, fd, G, hm, hk, hb⟩ := F.ex
  obtain ⟨W, tw, hw⟩ := tk.ex
  refine ⟨fun pins s σ H QH I ⟨τ, S, Q, R, so, q, kq⟩ => ?_⟩
  refine wpAny_Call_Name_kw (ld_glob I hg hm ?_ hdb)
  refine PySem.W.callWith_K (h₀ := X.base) I.ok.mod.kin hk (thn (ha.run pos pins s σ H (fun vs H1 => ∃ ds S1, StOk X.K H1 S1 ∧ Step H S H1 S1 ∧ RelAs X.K H1 S1 vs ds ∧ ∃ g tl, ds[j]? = some (.ref g) ∧ cal τ S1 g tl ∧ asp tl ds S1 Q (EX τ)) I ⟨τ, S, _, R, so, q, fun vs H1 ds S1 so1 st1 r1 q1 => ⟨ds, S1, so1, st1, r1, q1⟩⟩) fun us s1 z => ?_) he hpl
  obtain ⟨vs, H1, I1, r, ds, S1, so1, st1, r1, g, tl, hj, hc, q1⟩ := z
  refine ⟨I1.kIn, ?_⟩
  have hl : (us ++ []).length = ps.length := by rw [List.append_nil, ← r.length, r1.length]; exact G.len _ _ _ _ _ q1
  have b := hb s1 us I1.kIn hl
  rw [List.append_nil] at b
  refine wpAny_call (codeAny_mono (G.go X.A gd hr X.stack s1 H1 S1 ⟨us, []⟩ us vs ds QH (fun cls d H' => W cls d σ H') Q (EX τ) g tl I1.env0 b r r1 so1 hj (hcal pins σ τ H1 s1 S1 g tl I1 (R.step st1) so1 hc) q1
    (fun d S' v H' so' st' r' q' => kq v H' d S' so' (st1.trans st') r' q') fun C d v H' S' so' st' xd ex => hw C d v σ τ H' S' (R.step (st1.trans st')) so' xd ex) fun r' s' z => ?_)
  cases r' with
  | error e => exact L2N.passAt tw σ pins H1 s1 e s' I1 z
  | ok fl =>
    cases fl with
    | brk => exact z.elim
    | cont => exact z.elim
    | next => exact z.elim
    | ret u => exact I1.after z
/-- the callable that the def itself got -/
theorem calokZ {Y : Cx} {S0 : Store} {g : Addr} {tl : TL} {k : Nat} (cb : Callable Y.prog Y.w Y.K Y.mg Y.base k Y.outer Y.s_0 Y.H_0 S0 g tl) (hb : ∀ H S, bb.p H S → Step Y.H_0 S0 H S) (hst : Y.stack = Y.env :: Y.outer := by rfl) (hfr : Y.env.frame = some Y.env.locals := by rfl) (hex : Y.ex = [] := by rfl) :
    CalOk Y bb k (fun _ _ g' tl' => g' = g ∧ tl' = tl) := fun pins σ τ H s S g' tl' I R so h => by
  obtain ⟨rfl, rfl⟩ := h
  exact callable_on cb I (hb _ _ R.bt) (Nat.le_refl _) hst hfr hex
/-- nothing raised is wished of -/
theorem tk0 {X : Cx} : TkX X bb (fun _ _ _ _ => False) := ⟨⟨_, takesN0, fun _ _ _ _ _ _ _ _ _ _ h => h.elim⟩⟩
/-- no callable, or one more -/
def cal0 : CALs := fun _ _ _ _ => False
def calL (L : LamD) (ae : EXw → AE) (r : CALs) : CALs := fun τ S g tl => (S g = some (.lam L) ∧ tl = fun S' Q' EX' => ae (fun _ => EX') τ S' Q') ∨ r τ S g tl
theorem calok0 {X : Cx} {k : Nat} : CalOk X bb k cal0 := fun _ _ _ _ _ _ _ _ _ _ _ h => h.elim
theorem calokL {X : Cx} {k : Nat} {ps : Arguments} {body : Expr} {sc : Scope} {ae : EXw → AE} {r : CALs} (hL : LamX.LamS X.env.scope sc)
    (hbind : ∀ (q : Str) (cl : List (Str × Addr)) (pm cv ctv : Value), bindArgs (PySem.W.kla_fn "<lambda>" q ps body sc cl pm cv ctv) ⟨[], []⟩ = pure [])
    (hbody : ∀ (A : Around), A.guards = some [] → ∀ (outer : List Env) (s1 : Shared) (H1 : Hp) (E : XK) (f c' : Addr) (b : Birth) (EX : EXw), Room k (A.deeper (LamX.lamEnv X sc s1.heap.objs.size f c')) → TkX (lamCxN X A outer s1 H1 E sc f c') b EX → PE (lamCxN X A outer s1 H1 E sc f c') body (low ⟨X.K, b⟩ (ae EX)))
    (hr : CalOk X bb (k + 1) r) : CalOk X bb (k + 1) (calL (lamOf X ps body sc) ae r) := fun pins σ τ H s S g tl I R so h => by
  rcases h with ⟨hf, rfl⟩ | h
  · exact lam_callable I R so hf hL hbind hbody
  · exact hr pins σ τ H s S g tl I R so h
end
end L3

set_option Elab.async false
set_option linter.all false
set_option maxRecDepth 100000
set_option maxHeartbeats 2000000
set_option autoImplicit false
/-! L4N: a list comprehension whose element may lean on the def's own names (a lambda of the def's is called there); try within a def that got a callable. -/
namespace L3
open PySem L2 PyProof.Rows
variable {bb : Birth}
/-- a block's state is one of the def, too -/
abbrev BackOk (X : Cx) (σ0 : L2.St) (Y : Cx) : Prop := ∃ pins0, ∀ {pins : List (Addr × Obj)} {σ : L2.St} {H : Hp} {s : Shared}, Inv Y pins σ H s → Inv X pins0 σ0 H s
theorem pe_lcB {X : Cx} {elt tg iter : Expr} {ifs : List Expr} {scope : Scope} {own : List (Str × Nat)} {pos : Pos} {wi : TI} {g : TG} {tt : TT} {te : TE} (calm : X.calm = true) (nd : X.N.Nodup) (hi : PI X tg iter wi) (ok : BlkOk X.N X.env.scope scope own)
    (hg : ∀ (s : Shared) (H : Hp) (C : Addr) (cl : List (Str × Addr)) (fp : List Addr), PG (X.blk s H scope (compEnvC scope cl C X.env) fp) tg g)
    (ht : ∀ (s : Shared) (H : Hp) (C : Addr) (cl : List (Str × Addr)) (fp : List Addr), PTs (X.blk s H scope (compEnvC scope cl C X.env) fp) ifs tt)
    (he : ∀ (σ0 : L2.St) (s : Shared) (H : Hp) (C : Addr) (cl : List (Str × Addr)) (fp : List Addr), BackOk X σ0 (X.blk s H scope (compEnvC scope cl C X.env) fp) →
      PE (X.blk s H scope (compEnvC scope cl C X.env) fp) elt (fun σ' H' Q => wipe σ' (own.map (·.2)) = wipe σ0 (own.map (·.2)) ∧ te σ' H' Q))
    (plain : ∀ x, foldedSetIterable iter X.env x = pure x := by intro _; rfl) : PE X (.ListComp elt [⟨tg, iter, ifs, 0⟩] scope pos) (tLc wi g tt te (own.map (·.2))) := by
  refine ⟨fun pins s σ H Q I h => ?_⟩
  have look : ∀ y ∈ scope.names, y.2 = .free → ∃ c, X.env.cells.lookup y.1 = some c := fun y hy e => (ok.free y hy e).elim (fun z => I.ok.has _ (.inl z)) fun z => I.ok.has _ (.inr z)
  rw [eval_ListComp]
  refine wpAny_comprehension_free (use := none) rfl plain (closure_ok look) ok.kind (fun y hy e => (ok.uniq y hy).trans (congrArg some e)) (thn (hi.run pins s σ H _ I h) fun _ _ h1 => thn h1 fun _ s2 h2 => ?_)
  obtain ⟨it, fp, tn, J, H2, rfl, I2, T, ready, own2, q⟩ := h2
  refine wpAny_newObj_type (newEnv_comp ?_) (Nat.zero_le sizeLine)
  have fresh : H2 s2.heap.objs.size = none := I2.hok.fresh (Nat.le_refl _)
  obtain ⟨Wn, ⟨m0, w0⟩, turn⟩ := q _ fresh
  have below : ∀ b ∈ fp, b < s2.heap.objs.size := fun b hb => let ⟨_, e, _⟩ := T.obj _ _ ready b hb; Heap.lt_size e
  -- the state with the new list: (sA, HA)
  have IA : Inv X pins σ (upd H2 s2.heap.objs.size (.lst [])) { s2 with heap := s2.heap.push { cls := .type "list", data := .seq ([] : List Value).toArray } } :=
    I2.laid (t' := s2.toks) (fun _ _ z => Heap.get?_push_of_some _ z) (Nat.le_refl _) ⟨Nat.zero_le _, [], 0, .nil, Heap.get?_push_size _ rfl⟩
  have readyA : tn 0 (s2.heap.push { cls := .type "list", data := .seq ([] : List Value).toArray }) := T.keep _ _ _ ready fun _ _ _ z => Heap.get?_push_of_some _ z
  have ownA : ∀ b ∈ fp, FpOk X pins (upd H2 s2.heap.objs.size (.lst [])) b ∧ b < (s2.heap.push { cls := .type "list", data := .seq ([] : List Value).toArray }).objs.size := fun b hb => by
    refine ⟨⟨?_, (own2 b hb).2⟩, by rw [Heap.size_push]; exact Nat.lt_succ_of_lt (below b hb)⟩
    rw [upd_ne (Nat.ne_of_lt (below b hb))]
    exact (own2 b hb).1
  generalize upd H2 s2.heap.objs.size (.lst []) = HA at IA ownA w0
  generalize hD : s2.heap.objs.size = D at turn w0 ⊢
  generalize hA : ({ s2 with heap := s2.heap.push { cls := .type "list", data := .seq ([] : List Value).toArray } } : Shared) = sA at IA
  have hAh : s2.heap.push { cls := .type "list", data := .seq ([] : List Value).toArray } = sA.heap := congrArg Shared.heap hA
  rw [hAh] at readyA ownA
  have IB := block_start IA ok nd ownA
  have pg := hg sA HA sA.heap.objs.size (cellsFrom (sA.heap.objs.size + 1) scope.names (cloFrom X.env.cells scope.names [])) fp
  have pt := ht sA HA sA.heap.objs.size (cellsFrom (sA.heap.objs.size + 1) scope.names (cloFrom X.env.cells scope.names [])) fp
  have pe := he σ sA HA sA.heap.objs.size (cellsFrom (sA.heap.objs.size + 1) scope.names (cloFrom X.env.cells scope.names [])) fp
  have goal2 : codeAny (model X.prog X.w) X.A (.compStart (.ListComp elt [⟨tg, iter, ifs, 0⟩] scope pos) 0 (.ref it) (.ref D) (compEnvC scope (cellsFrom (sA.heap.objs.size + 1) scope.names (cloFrom X.env.cells scope.names [])) sA.heap.objs.size X.env))
      (compPost (model X.prog X.w) X.A X.xe none (EP X pins σ Q) (.ref D) sA.heap.objs.size) { sA with heap := pushCells (sA.heap.push { cls := .type "dict", data := .dict #[] }) scope.names } := by
    generalize hce : compEnvC scope (cellsFrom (sA.heap.objs.size + 1) scope.names (cloFrom X.env.cells scope.names [])) sA.heap.objs.size X.env = ce at IB pg pt pe
    have cloc : ce.locals = sA.heap.objs.size := by rw [← hce]; rfl
    have readyB : tn 0 (pushCells (sA.heap.push { cls := .type "dict", data := .dict #[] }) scope.names) := T.keep _ _ _ readyA fun _ _ _ z => pushCells_keeps _ _ _ _ (Heap.get?_push_of_some _ z)
    generalize hB : ({ sA with heap := pushCells (sA.heap.push { cls := .type "dict", data := .dict #[] }) scope.names } : Shared) = sB at IB ⊢
    have readyB : tn 0 sB.heap := by rw [← hB]; exact readyB
    -- back to the def's own context
    have back : ∀ {pn : List (Addr × Obj)} {σ' : L2.St} {H' : Hp} {s' : Shared}, Inv (X.blk sA HA scope ce fp) pn σ' H' s' → Inv X pins σ H' s' := fun {pn σ' H' s'} Z =>
      IA.call' (ch := fp) Z.os Z.base Z.hok Z.bare fun b hb => let z := (ownA b hb).1; ⟨z.2.2.2.1, z.2.1, z.2.2.2.2.1, z.2.2.2.2.2⟩
    have pe := pe ⟨pins, back⟩
    have foot : ∀ {σ' : L2.St} {H' : Hp} {s' : Shared}, Inv (X.blk sA HA scope ce fp) [] σ' H' s' → (∀ b ∈ fp, H' b = none) → ∀ b ∈ fp, FpOk (X.blk sA HA scope ce fp) [] H' b := fun {σ' H' s'} Z n b hb =>
      ⟨n b hb, (Z.ok.exf b hb).1, Z.ok.exfs b hb, .inl hb, (Z.ok.exf b hb).2, fun p hp => by cases (show p ∈ ([] : List (Addr × Obj)) ++ [] from hp)⟩
    have loop : codeAny (model X.prog X.w) X.A (.compLoop (.ListComp elt [⟨tg, iter, ifs, 0⟩] scope pos) 0 (.ref it) (.ref D) ce) (compPost (model X.prog X.w) X.A X.xe none (EP X pins σ Q) (.ref D) sA.heap.objs.size) sB := by
      refine compLoop_any (fun n s' => ∃ i H', Inv (X.blk sA HA scope ce fp) [] (wipe σ (own.map (·.2))) H' s' ∧ tn i s'.heap ∧ (∀ b ∈ fp, H' b = none) ∧ Wn i n H') ?_ m0 ⟨0, HA, IB, readyB, fun b hb => (ownA b hb).1.1, w0⟩
      intro n s5 ⟨i, H5, I5, r5, n5, w5⟩
      rcases turn i n H5 w5 with ⟨halt, qq⟩ | ⟨more, Nx, hNx, step⟩
      · refine thnF (T.done (X.blk sA HA scope ce fp) rfl rfl rfl calm i [] s5 _ H5 (fun _ _ => False) I5 (foot I5 n5) r5 halt) fun r s6 ⟨er, I6⟩ => ?_
        subst er
        have I7 := back I6
        have nC : H5 sA.heap.objs.size = none := by rw [← cloc]; exact I6.free
        obtain ⟨m, hn, _⟩ := I6.loc
        have hn : s6.heap.Ns sA.heap.objs.size m := by rw [← cloc]; exact hn
        obtain ⟨g0, g1, g2, g3, g4, g5⟩ := IA.fpOk (H' := H5) (Nat.le_refl _) nC
        exact ⟨m, hn, fun h'' sb => ⟨.ref D, H5, I7.turned (t' := s6.toks) (fun b o hb z => (sb.2 b hb).trans z) g0 g1 g3 g4 g5, rfl, qq⟩⟩
      · refine thnF (T.item (X.blk sA HA scope ce fp) rfl rfl rfl calm i [] s5 _ H5 (fun _ _ => False) I5 (foot I5 n5) r5 more) fun r s6 ⟨u, er, h6⟩ => ?_
        subst er
        refine thnF h6 fun _ s7 ⟨x, H7, I7, r7, y7, st7, n7⟩ => ?_
        refine thnF (pg.run _ s7 _ H7 x u _ (I7.pinned (foot I7 n7) (T.obj _ _ st7)) r7 (step x H7 y7)) fun _ s8 ⟨σ8, H8, I8, hw8, q8⟩ => ?_
        refine thnF (pt.run _ s8 σ8 H8 _ I8 q8) fun b s9 ⟨H9, I9, q9⟩ => ?_
        have len8 : (wipe σ (own.map (·.2))).length = σ8.length := by rw [← hw8, wipe_length]
        have next : ∀ {s' : Shared} {H' : Hp}, Inv (X.blk sA HA scope ce fp) ([] ++ pinsAt fp s7.heap) σ8 H' s' → Nx H' → ∃ m, m < n ∧ ∃ i H', Inv (X.blk sA HA scope ce fp) [] (wipe σ (own.map (·.2))) H' s' ∧ tn i s'.heap ∧ (∀ b ∈ fp, H' b = none) ∧ Wn i m H' := by
          intro s' H' Z nx
          obtain ⟨m', hm, w'⟩ := hNx H' nx
          have kept : ∀ b ∈ fp, ∀ o, s7.heap.get? b = some o → s'.heap.get? b = some o ∧ H' b = none := fun b hb o z => by
            obtain ⟨a1, a2, _⟩ := Z.pin (b, o) (List.mem_append_right _ (List.mem_append_right _ (mem_pinsAt hb z)))
            exact ⟨a1, a2⟩
          refine ⟨m', hm, i + 1, H', (Z.unpinned (pins := [])).weak len8 (fun j v e => (wipe_some (by rw [hw8]; exact e)).1), T.keep _ _ _ st7 fun b hb o z => (kept b hb o z).1, fun b hb => ?_, w'⟩
          obtain ⟨o, z, _⟩ := T.obj _ _ st7 b hb
          exact (kept b hb o z).2
        cases b with
        | false => exact next I9 q9
        | true =>
          refine thnF (pe.run _ s9 σ8 H9 _ I9 ⟨hw8, q9⟩) fun z s10 ⟨yv, H10, I10, r10, acc, hD10, room, nx⟩ => ?_
          exact app_ok (X := X.blk sA HA scope ce fp) I10 hD10 room r10 fun s11 I11 => next I11 nx
    exact codeAny_compStart_list loop (T.self X.A 0 _ _ _ readyB loop)
  subst hA
  exact goal2

/-! ### over L3 -/
def Birth.and (a b : Birth) : Birth := ⟨fun H S => a.p H S ∧ b.p H S, fun h st => ⟨a.step h.1 st, b.step h.2 st⟩, fun h s => ⟨a.sub h.1 s, b.sub h.2 s⟩⟩
/-- [e for x, y in xs if t], e leans on the def's state ahead of it -/
def aLcPB (ai : AI) (j k : Nat) (tt : AT) (te : ASt → AE) (vs : List Nat) : AE := fun τ S Q => aLcP ai j k tt (te τ) vs τ S Q
def teB (kb : KB) (vs : List Nat) (te : ASt → AE) : TE := fun σ' H' Q => ∃ (σz : L2.St) (τ0 : ASt) (b2 : Birth), wipe σz vs = wipe σ' vs ∧ (∀ H S, b2.p H S → Rp kb H S σz τ0) ∧ low ⟨kb.K, b2⟩ (te τ0) σ' H' Q
theorem lcP_lowB {kb : KB} {wi : TI} {ai : AI} {g : TG} {tt : AT} {te : ASt → AE} {vs : List Nat} {j jj : Nat} (hj : j ∈ vs) (hjj : jj ∈ vs) (hwi : wi = lowI kb ai) (hg : g = gTup kb.K 2 (gCons (gName j) (gCons (gName jj) gNil))) : ∀ σ H QH, low kb (aLcPB ai j jj tt te vs) σ H QH → tLc wi g (lowT kb tt) (teB kb vs te) vs σ H QH := by
  subst hwi hg
  intro σ H QH ⟨τ, S, Q, R, so, q, k⟩
  refine ⟨τ, S, _, R, so, q, fun J H1 xs G S1 so1 st1 it hI D hD => ?_⟩
  obtain ⟨I, i0, hstep, hend⟩ := hI D (so1.fresh hD)
  have nD : S1 D = none := so1.fresh hD
  -- the start
  have stD : Step H1 S1 (upd H1 D (.lst [])) (updS S1 D .hid) := step_put so1 hD
  have soD : StOk kb.K (upd H1 D (.lst [])) (updS S1 D .hid) := stok_put (u := .hid) so1 hD ⟨_, upd_same⟩
  refine ⟨fun i m H' => ∃ acc S2 ws, I i acc S2 ∧ i + m = xs.length ∧ StOk kb.K H' S2 ∧ S2 D = some .hid ∧ H' D = some (.lst ws) ∧ RelAs kb.K H' S2 ws acc ∧
    (∀ a o, a ≠ D → S1 a = none → H1 a = some o → H' a = some o ∧ S2 a = none) ∧ (∀ a, S1 a = some .hid → H' a = H1 a ∧ S2 a = some .hid), ⟨xs.length, [], _, [], i0, by omega, soD, updS_same, upd_same, .nil, fun a o _ n h => stD.old a o n h, fun a h => stD.hid a h⟩, ?_⟩
  intro i m H2 ⟨acc, S2, ws, w2, hm, so2, hh2, hD2, r2, old2, hid2⟩
  have st2 : Step H1 S1 H2 S2 := ⟨fun a o n h => old2 a o (ne_of_none h hD) n h, hid2⟩
  by_cases hi : i < xs.length
  · right
    have hx : xs[i]? = some xs[i] := List.getElem?_eq_getElem hi
    obtain ⟨hG, d1, d2, ex, hq⟩ := hstep i _ acc S2 hx w2
    obtain ⟨hgo, hy⟩ := (it H2 S2 so2 st2 hG).1 i _ hx
    refine ⟨hgo, _, fun H' h => h, fun v H3 hv => ?_⟩
    obtain ⟨so3, st3, r3⟩ := hy v H3 hv
    rw [ex] at r3
    obtain ⟨av, ws0, ev, sq, rs0⟩ := rel_tupE r3
    obtain ⟨v1, v2, ew, rv1, rv2⟩ := rel_two rs0
    subst ev ew
    refine ⟨av, [v1, v2], rfl, sq, rfl, v1, [v2], rfl, v2, [], rfl, rfl, ?_⟩
    refine ⟨by rw [wipe_set hjj, wipe_set hj]; exact wipe_wipe σ vs vs fun _ h => h, ?_⟩
    have R3 : Rp kb H3 S2 (((L2.wipe σ vs).set j (some v1)).set jj (some v2)) (((wipeA τ vs).set j (some d1)).set jj (some d2)) := ((((R.step st1).step st2).step st3).wipe vs |>.set rv1 j) |>.set rv2 jj
    have keep : ∀ {H4 : Hp} {S4 : Store}, Step H2 S2 H4 S4 → H4 D = some (.lst ws) ∧ S4 D = some .hid ∧ RelAs kb.K H4 S4 ws acc ∧ (∀ a o, a ≠ D → S1 a = none → H1 a = some o → H4 a = some o ∧ S4 a = none) ∧ (∀ a, S1 a = some .hid → H4 a = H1 a ∧ S4 a = some .hid) := by
      intro H4 S4 st
      obtain ⟨e1, e2⟩ := st.hid D hh2
      exact ⟨e1.trans hD2, e2, r2.step st, fun a o ne n h => let ⟨h1, n1⟩ := old2 a o ne n h; st.old a o n1 h1, fun a h => let ⟨h1, n1⟩ := hid2 a h; let ⟨h3, n3⟩ := st.hid a n1; ⟨h3.trans h1, n3⟩⟩
    refine ⟨_, S2, _, R3, so3, hq, fun b H4 S4 so4 st4 q4 => ?_⟩
    cases b with
    | false =>
      rw [if_neg Bool.false_ne_true] at q4 ⊢
      obtain ⟨e1, e2, e3, e4, e5⟩ := keep (st3.trans st4)
      exact ⟨m - 1, by omega, acc, S4, ws, q4, by omega, so4, e2, e1, e3, e4, e5⟩
    | true =>
      rw [if_pos rfl] at q4 ⊢
      refine ⟨σ, τ, kb.b.and (bornAt H S), by rw [wipe_set hjj, wipe_set hj]; exact (wipe_wipe σ vs vs fun _ h => h).symm, fun H' S' hb => R.step hb.2, _, S4, _, (R3.step st4).re rfl ⟨(R3.step st4).bt, st1.trans ((st2.trans st3).trans st4)⟩, so4, q4, fun y H5 dy S5 so5 st5 r5 ⟨hz, w5⟩ => ?_⟩
      obtain ⟨e1, e2, e3, e4, e5⟩ := keep ((st3.trans st4).trans st5)
      refine ⟨ws, e1, by rw [r2.length]; exact hz, m - 1, by omega, acc ++ [dy], S5, ws ++ [y], w5, by omega, ?_⟩
      -- the list at D has grown; nothing else
      have grow : Old H5 S5 (upd H5 D (.lst (ws ++ [y]))) S5 := fun a o n h => by
        have ne : a ≠ D := by rintro rfl; rw [e2] at n; cases n
        exact ⟨by rw [upd_ne ne]; exact h, n⟩
      refine ⟨fun a o e => ?_, e2, upd_same, (e3.app (.cons r5 .nil)).stepO grow, fun a o ne n h => by rw [upd_ne ne]; exact e4 a o ne n h, fun a h => ?_⟩
      · by_cases z : a = D
        · subst z
          rw [e2] at e
          cases e
          exact ⟨_, upd_same⟩
        · exact (so5 a o e).stepO grow (upd_ne z)
      · have z : a ≠ D := by rintro rfl; rw [nD] at h; cases h
        rw [upd_ne z]
        exact e5 a h
  · left
    have e : i = xs.length := by omega
    subst e
    obtain ⟨hG, hq⟩ := hend acc S2 w2
    have less : Old H2 S2 H2 (dropS S2 D) := fun a o n h => ⟨h, by unfold dropS; split; rfl; exact n⟩
    refine ⟨(it H2 S2 so2 st2 hG).2, k _ H2 _ (dropS S2 D) (fun a o e => ?_) (st1.trans ⟨fun a o n h => ?_, fun a h => ?_⟩) (.lst hD2 dropS_same (r2.stepO less)) hq⟩
    · have ne : a ≠ D := by rintro rfl; rw [dropS_same] at e; cases e
      rw [dropS_ne ne] at e
      exact (so2 a o e).stepO less rfl
    · obtain ⟨h1, n1⟩ := st2.old a o n h
      exact ⟨h1, (less a o n1 h1).2⟩
    · obtain ⟨h1, n1⟩ := st2.hid a h
      have ne : a ≠ D := by rintro rfl; rw [nD] at h; cases h
      exact ⟨h1, by rw [dropS_ne ne]; exact n1⟩

section
variable {X : Cx} {elt tg iter : Expr} {ifs : List Expr} {scope : Scope} {own : List (Str × Nat)} {ai : AI} {tt : AT} {te : ASt → AE} {pos : Pos}
theorem e_lcPB (j jj : Nat) (own : List (Str × Nat)) (hc : X.calm = true) (hN : X.N.Nodup) (hi : PI X tg iter (lowI (kx X bb) ai)) (ok : BlkOk X.N X.env.scope scope own)
    (hg : ∀ (s : Shared) (H : Hp) (C : Addr) (cl : List (Str × Addr)) (fp : List Addr), PG (X.blk s H scope (compEnvC scope cl C X.env) fp) tg (gTup X.K 2 (gCons (gName j) (gCons (gName jj) gNil))))
    (ht : ∀ (s : Shared) (H : Hp) (C : Addr) (cl : List (Str × Addr)) (fp : List Addr), PTs (X.blk s H scope (compEnvC scope cl C X.env) fp) ifs (lowT (kx X bb) tt))
    (he : ∀ (s : Shared) (H : Hp) (C : Addr) (cl : List (Str × Addr)) (fp : List Addr) (b2 : Birth) (τ0 : ASt), (∀ (kk : Nat) (cal : CALs), CalOk X bb kk cal → CalOk (X.blk s H scope (compEnvC scope cl C X.env) fp) b2 kk (fun _ => cal (wipeA τ0 (own.map (·.2))))) →
      PE (X.blk s H scope (compEnvC scope cl C X.env) fp) elt (low ⟨X.K, b2⟩ (te τ0)))
    (hj : j ∈ own.map (·.2) := by decide) (hjj : jj ∈ own.map (·.2) := by decide) (hs : ∀ x, foldedSetIterable iter X.env x = pure x := by intro _; rfl) : PE X (.ListComp elt [⟨tg, iter, ifs, 0⟩] scope pos) (low (kx X bb) (aLcPB ai j jj tt te (own.map (·.2)))) := by
  refine (pe_lcB (own := own) (te := teB (kx X bb) (own.map (·.2)) te) hc hN hi ok hg ht (fun σ0 s H C cl fp back => ⟨fun pins s' σ' H' Q I ⟨ew, σz, τ0, b2, ez, hrp, h⟩ => ?_⟩) hs).weak (lcP_lowB hj hjj rfl rfl)
  obtain ⟨pins0, back⟩ := back
  refine (he s H C cl fp b2 τ0 fun kk cal ok2 pins2 σ2 τ2 H2 s2 S2 g tl I2 R2 so2 hc2 => ?_).run pins s' σ' H' Q I h
  have IX := back I2
  have e : wipe σ0 (own.map (·.2)) = wipe σz (own.map (·.2)) := by rw [ez, ew]
  have IX2 : Inv X pins0 (wipe σz (own.map (·.2))) H2 s2 := by
    rw [← e]
    exact IX.weak (wipe_length σ0 _) fun i v z => (wipe_some z).1
  exact ok2 pins0 _ _ H2 s2 S2 g tl IX2 ((hrp H2 S2 R2.bt).wipe _) so2 hc2
end
/-! ### try, where what was born stays known -/
section
variable {X : Cx} {x n : Str} {Hc : Addr} {i : Nat} {body suite : List Stmt} {b₀ : Stmt} {np pos pos' : Pos} {asb : EXw → AS} {ash : Addr → Addr → AV → AS}
theorem s_tryVB (i : Nat) (hc : X.mg x = some (.ref Hc)) (hN : X.N.Nodup) (hb : ∀ (pn : List (Addr × Obj)) (xe : Value → Shared → Prop) (EX : EXw) (b2 : Birth), (∀ H S, b2.p H S → bb.p H S) → TkX (X.tr pn xe) b2 EX → PassesOwn (model X.prog X.w) X.A X.env xe → PSs (X.tr pn xe) body (lowS ⟨X.K, b2⟩ (asb EX)))
    (hsu : ∀ (a : Addr) (oe : Obj) (C d : Addr) (v : AV) (pn : List (Addr × Obj)) (Hh : Hp) (Sh : Store), Zc (.ref C) (some d) oe → (∃ vs, oe.data = .fields vs) → XdIs X.K Hh Sh d v → XfV X.K C → PXN.CtxN oe → PSs (X.suite a ((a, oe) :: pn)) (b₀ :: suite) (lowS ⟨X.K, bornAt Hh Sh⟩ (ash a C v)))
    (hi : X.N[i]? = some n := by rfl) (hln : X.env.kindOf n = some .local := by rfl) (hs : X.stack = X.env :: X.outer := by rfl) (hf : X.env.frame = some X.env.locals := by rfl) (hg : Gl X x := by rfl) (hdb : (x == ("__debug__" : Str)) = false := by decide) :
    PS X (.Try body [.ExceptHandler (some (.Name x np)) (some n) (b₀ :: suite) pos'] [] [] pos) (lowS (kx X bb) (aTryV X.K i Hc asb ash)) := by
  refine (L2N.ps_try_as (i := i) (c := .ref Hc) (tb := fun W D σ H => ∃ (b2 : Birth) (EX : EXw), (∀ H S, b2.p H S → bb.p H S) ∧ (∀ (C d : Addr) (v : AV) (σ : L2.St) (τ : ASt) (H : Hp) (S : Store), Rp ⟨X.K, b2⟩ H S σ τ → StOk X.K H S → XdIs X.K H S d v → EX τ C v S → W (.ref C) (some d) σ H) ∧ lowS ⟨X.K, b2⟩ (asb EX) D σ H)
    (ts := fun a cls d D σ H => ∃ (C dd : Addr) (v : AV) (S : Store) (τ : ASt) (DA : AEnds), cls = .ref C ∧ d = some dd ∧ XdIs X.K H S dd v ∧ XfV X.K C ∧ Rp ⟨X.K, bornAt H S⟩ H S σ τ ∧ StOk X.K H S ∧ ash a C v DA τ S ∧ EndsOk ⟨X.K, bornAt H S⟩ H S DA D)
    hs hf hN hi hln ⟨hg, hdb, .inl hc⟩ takesN0 (fun W pn xe tw po => ⟨fun pins s σ H D I ⟨b2, EX, hbb, ht, q⟩ => (hb pn xe EX b2 hbb ⟨⟨W, tw, ht⟩⟩ po).run pins s σ H D I q⟩) (fun a oe cls d pn hz hd => ⟨fun pins s σ H D I h => ?_⟩)).weak fun DH σ H ⟨τ, S, DA, R, so, q, k⟩ => ?_
  · obtain ⟨C, dd, v, S, τ, DA, e1, e2, xd, xv, R, so, q, ends⟩ := h
    subst e1 e2
    exact (hsu a oe C dd v pn H S hz.zc hd xd xv hz.2.2).run pins s σ H D I ⟨τ, S, DA, R, so, q, ends⟩
  · refine ⟨bb.and (bornAt H S), _, fun _ _ h => h.1, fun C d v σ' τ' H' S' R' so' xd ⟨em, xv, hq⟩ => ⟨true, em, fun _ a ha => ?_, fun z => by cases z⟩, τ, S, DA, R.re rfl ⟨R.bt, Step.refl⟩, so, q, ?_⟩
    · exact ⟨fun σ2 H2 τ2 S2 so2 st2 R2 q2 => k.nx _ H2 _ S2 so2 st2 (R2.re rfl (bb.step R.bt st2)) q2, fun v2 H2 d2 S2 so2 st2 => k.rt v2 H2 d2 S2 so2 st2,
        fun σ2 H2 τ2 S2 so2 st2 R2 q2 => k.bk _ H2 _ S2 so2 st2 (R2.re rfl (bb.step R.bt st2)) q2, fun σ2 H2 τ2 S2 so2 st2 R2 q2 => k.ct _ H2 _ S2 so2 st2 (R2.re rfl (bb.step R.bt st2)) q2⟩
    · have st' : Step H S H' S' := R'.bt.2
      refine ⟨C, d, v, S', _, _, rfl, rfl, xd, xv, (R'.re (k2 := ⟨X.K, bornAt H' S'⟩) rfl Step.refl).set (.ref a) i, so', hq a, ?_⟩
      exact ⟨fun σ2 H2 τ2 S2 so2 st2 R2 q2 => k.nx _ H2 _ S2 so2 (st'.trans st2) ((R2.forget i).re rfl (bb.step R.bt (st'.trans st2))) q2, fun v2 H2 d2 S2 so2 st2 => k.rt v2 H2 d2 S2 so2 (st'.trans st2),
        fun σ2 H2 τ2 S2 so2 st2 R2 q2 => k.bk _ H2 _ S2 so2 (st'.trans st2) ((R2.forget i).re rfl (bb.step R.bt (st'.trans st2))) q2, fun σ2 H2 τ2 S2 so2 st2 R2 q2 => k.ct _ H2 _ S2 so2 (st'.trans st2) ((R2.forget i).re rfl (bb.step R.bt (st'.trans st2))) q2⟩
end
end L3

set_option Elab.async false
set_option linter.all false
set_option maxRecDepth 100000
set_option maxHeartbeats 2000000
set_option autoImplicit false
/-! L4O: the end of a law whose defs make lambdas. -/
namespace L3
open PySem L2 PyProof.Rows
section
variable {P : Program} {w : World} {K : PySem.W.Frag} {mg : Str → Option Value}
/-- the heap of the law's own call: the script, if it is not of the written part; the tables -/
def endH (K : PySem.W.Frag) (cs : List (Addr × Addr)) (a : Addr) (o : Obj) (xs : List V) : Hp := fun b => if b = a ∧ (K.lookup a).isNone = true then some (.frz o (.lst xs)) else if b ∈ cs.map (·.2) then some (.tbl #[]) else none
theorem law_callT {mb : Str → Option Value} {k : Nat} {fa a : Addr} {fd : FuncData} {x : Str} {sp : Sp} {s₁ : Shared} {vs : List Value} {ns : List Int} {cs : List (Addr × Addr)}
    (KX : K.In s₁.heap) (hns : s₁.heap.Ns mainGlobals mg) (hb : s₁.heap.Ns builtinsNs mb) (hbb : ∀ y : Str, y ≠ "__name__" → mb y = bootBuiltins y) (nol : s₁.heap.NoLimit) (hge : s₁.gens = #[])
    (ha : s₁.heap.get? a = some { cls := .type "list", data := .seq vs.toArray }) (hi : IntsAre vs ns) (hl : ns.length ≤ sizeLine) (hr : Room k callerA)
    (hT : ∀ p ∈ cs, s₁.heap.get? p.2 = some { cls := .none, data := .fields #[] }) (nT : ∀ p ∈ cs, K.lookup p.2 = none) (hC : ∀ p ∈ cs, PySem.W.CodeHd s₁.heap p.1 p.2)
    (hbm : ∃ (bm : Addr) (ob : Obj), mg "__builtins__" = some (.ref bm) ∧ bm ≠ builtinsNs ∧ s₁.heap.get? bm = some ob ∧ ob.cls = .type "module" ∧ ob.dict = some builtinsNs ∧ ob.data = .plain)
    (F : ∀ base : Heap, K.In base → base.Ns mainGlobals mg → (∀ p ∈ cs, LamX.TabB base mg p.1 p.2) → FnG P w K mg base k fa fd [x] sp) (bind : ∀ (s : Shared) (u : Value), BindsTo s fd ⟨[u], []⟩ [(x, u)])
    (hsp : ∀ H : Hp, (∀ p ∈ cs, H p.2 = some (.tbl #[])) → SqL K H a (ns.map V.int) → sp [.ref a] H (fun v _ => v = .bl true) fun _ _ _ => False) :
    codeAny (model P w) callerA (.call (.ref fa) ⟨[.ref a], []⟩) (fun r s' => r = .ok (.ret (.bool true)) ∧ OldK s₁.heap s'.heap ∧ s'.os = s₁.os ∧ AllBare s'.gens) s₁ := by
  have rv := vals_ints hi
  have nlen := hi.length
  have tabAt : ∀ {b : Addr}, b ∈ cs.map (·.2) → s₁.heap.get? b = some { cls := .none, data := .fields #[] } := fun {b} z => by
    obtain ⟨p, hp, rfl⟩ := List.mem_map.mp z
    exact hT p hp
  have noTab : a ∉ cs.map (·.2) := fun z => by
    have e := tabAt z
    rw [ha] at e
    have e2 := congrArg (fun o : Option Obj => o.map (·.data)) e
    exact (nomatch e2)
  have aK : ∀ {b : Addr} {o : Obj}, K.lookup b = some o → s₁.heap.get? b = some o := fun {b o} e => KX b o e
  generalize eH : endH K cs a { cls := .type "list", data := .seq vs.toArray } (ns.map V.int) = H
  have hTab : ∀ p ∈ cs, H p.2 = some (.tbl #[]) := fun p hp => by
    have hm : p.2 ∈ cs.map (·.2) := List.mem_map.mpr ⟨p, hp, rfl⟩
    rw [← eH]
    unfold endH
    rw [if_neg (fun z => noTab (by rw [← z.1]; exact hm)), if_pos hm]
  -- what is tracked
  have kinds : ∀ {b : Addr} {u : HO}, H b = some u → (b = a ∧ K.lookup a = none ∧ u = .frz { cls := .type "list", data := .seq vs.toArray } (.lst (ns.map V.int))) ∨ (b ∈ cs.map (·.2) ∧ u = .tbl #[]) := fun {b u} z => by
    rw [← eH] at z
    unfold endH at z
    split at z
    · rename_i h
      cases z
      exact .inl ⟨h.1, by simpa using h.2, rfl⟩
    · split at z
      · rename_i h
        cases z
        exact .inr ⟨h, rfl⟩
      · cases z
  have hok : HOk P w H s₁.heap := fun b u z => by
    rcases kinds z with ⟨rfl, _, rfl⟩ | ⟨hm, rfl⟩
    · exact ⟨ha, by rw [List.length_map]; exact hl, vs, _, rv, ha⟩
    · exact tabAt hm
  have hS : SqL K H a (ns.map V.int) := by
    cases hk : K.lookup a with
    | some o =>
      have e := KX a o hk
      rw [ha] at e
      cases e
      exact .inr ⟨_, vs.toArray, _, hk, rfl, rfl, rfl, by rw [List.size_toArray, nlen]; exact hl, by simpa using rv⟩
    | none => exact .inl (.inr ⟨{ cls := .type "list", data := .seq vs.toArray }, by rw [← eH]; unfold endH; rw [if_pos ⟨rfl, by rw [hk]; rfl⟩]⟩)
  have other : ∀ {b : Addr} {o : Obj}, s₁.heap.get? b = some o → (∀ us n, o.data ≠ .seq us n) → o.data ≠ .fields #[] → H b = none := fun {b o} e n1 n2 => by
    cases q : H b with
    | none => rfl
    | some u =>
      rcases kinds q with ⟨rfl, _, _⟩ | ⟨hm, _⟩
      · rw [ha] at e
        cases e
        exact (n1 _ _ rfl).elim
      · rw [tabAt hm] at e
        cases e
        exact (n2 rfl).elim
  have ns' : ∀ {b : Addr} {m : Str → Option Value}, s₁.heap.Ns b m → (hidT s₁.heap H).Ns b m := fun {b m} ⟨o, es, ep, e, d, r⟩ =>
    ⟨o, es, ep, hidT_get e (other e (fun us n z => by rw [d] at z; cases z) fun z => by rw [d] at z; cases z), d, r⟩
  have kb : K.In (hidT s₁.heap H) := fun b o e => by
    refine hidT_get (aK e) ?_
    cases q : H b with
    | none => rfl
    | some u =>
      rcases kinds q with ⟨rfl, hn, _⟩ | ⟨hm, _⟩
      · rw [hn] at e
        cases e
      · obtain ⟨p, hp, rfl⟩ := List.mem_map.mp hm
        rw [nT p hp] at e
        cases e
  have m0 : Mod K mg (hidT s₁.heap H) := ⟨kb, ns' hns, ⟨mb, ns' hb, hbb⟩, let ⟨mc, z1, z2⟩ := nol; ⟨mc, ns' z1, z2⟩⟩
  have tb : ∀ p ∈ cs, LamX.TabB (hidT s₁.heap H) mg p.1 p.2 := fun p hp => by
    have tp := hT p hp
    refine ⟨?_, ?_, fun z => ?_⟩
    · obtain ⟨o, us, file, tf, flags, tg, inF, text, tt, e1, r1, r2, r3, rest⟩ := hC p hp
      refine ⟨o, us, file, tf, flags, tg, inF, text, tt, hidT_get e1 (other e1 (fun vs n z => ?_) fun z => ?_), r1, r2, r3, rest⟩
      · rw [r2] at z
        cases z
      · rw [r2] at z
        cases z
        simp at r3
    · obtain ⟨bm, ob, b1, b2, b3, b4, b5, b6⟩ := hbm
      refine ⟨bm, ob, b1, b2, fun z => ?_, fun z => ?_, hidT_get b3 (other b3 (fun us n z => by rw [b6] at z; cases z) fun z => by rw [b6] at z; cases z), b4, b5, b6⟩
      · obtain ⟨o, es, ep, e, d, _⟩ := hns
        rw [z, e] at b3
        cases b3
        rw [d] at b6
        cases b6
      · rw [z, tp] at b3
        cases b3
        cases b6
    · obtain ⟨o, es, ep, e, d, _⟩ := hns
      rw [z, tp] at e
      cases e
      cases d
  have e0 : Env0 P w K mg (hidT s₁.heap H) callerA [] s₁ H := ⟨rfl, m0, fun b o e => of_hidT e, Nat.le_of_eq (hidT_size _ _), trivial, (fun b z => absurd (show b ∈ ([] : List Addr) from z) List.not_mem_nil), hok, AllBare.of_eq hge⟩
  refine codeAny_mono ((F _ kb (ns' hns) tb).go callerA rfl hr [] s₁ H ⟨[.ref a], []⟩ [.ref a] [.ref a] _ _ e0 (bind s₁ (.ref a)) (.cons rfl .nil) (hsp H hTab hS)) fun r s2 z => ?_
  cases r with
  | error e => exact False.elim z
  | ok fl =>
    cases fl with
    | brk => exact z.elim
    | cont => exact z.elim
    | next => exact z.elim
    | ret u =>
      obtain ⟨v, H2, os, bare, un, hok2, rr, q⟩ := z
      cases q
      cases rr
      have plainly : ∀ {b : Addr} {o : Obj}, b ∉ cs.map (·.2) → s₁.heap.get? b = some o → s2.heap.get? b = some o := fun {b o} hn e => by
        cases q : H b with
        | none => exact un.keep b o e q (by rintro ⟨⟩) (by rintro ⟨⟩)
        | some u =>
          rcases kinds q with ⟨rfl, _, rfl⟩ | ⟨hm, _⟩
          · obtain ⟨e1, _⟩ := hok _ _ q
            obtain ⟨e2, _⟩ := hok2 _ _ (un.frzs _ _ _ q)
            rw [e] at e1
            cases e1
            exact e2
          · exact absurd hm hn
      have grown : ∀ p ∈ cs, ∃ more : Array Value, s2.heap.get? p.2 = some { cls := .none, data := .fields more } := fun p hp => by
        obtain ⟨more, z⟩ := un.tbls p.2 #[] (hTab p hp)
        exact ⟨_, hok2 p.2 _ z⟩
      refine ⟨rfl, ⟨fun b o e => ?_, fun b o e => ?_⟩, os, bare⟩
      · by_cases hm : b ∈ cs.map (·.2)
        · obtain ⟨p, hp, rfl⟩ := List.mem_map.mp hm
          obtain ⟨more, h2⟩ := grown p hp
          rw [hT p hp] at e
          cases e
          exact .inr (.inl ⟨((hC p hp).tab (hT p hp)).isCodeTable, rfl, #[], more, rfl, by rw [Array.empty_append]; exact h2⟩)
        · exact .inl (plainly hm e)
      · by_cases hm : b ∈ cs.map (·.2)
        · obtain ⟨p, hp, rfl⟩ := List.mem_map.mp hm
          exact let ⟨more, h2⟩ := grown p hp; ⟨_, h2⟩
        · exact ⟨o, plainly hm e⟩
end
theorem FnX.lawT {P : Program} {w : World} {K : PySem.W.Frag} {mg : Str → Option Value} {k : Nat} {x : Str} {st : Stmt} {asp : ASp} {fa : Addr} {pn : Str} {cs : List (Addr × Addr)} (D : Def K mg x st [pn]) (hF : ∀ base, (∀ p ∈ cs, LamX.TabB base mg p.1 p.2) → FnX P w K mg base k x st [pn] asp) (hmg : mg x = some (.ref fa))
    (b : ∀ (kV doc pm : Value) (an : Option Addr) (cdv ct : Value) (us : List Value), us.length = 1 → bindArgs (PySem.W.fnOf x x (defArgs st) (defBody st) (defScope st) .none kV doc pm an cdv ct) ⟨us, []⟩ = pure ([pn].zip us)) :
    ∃ fd : FuncData, (∀ (s : Shared) (u : Value), BindsTo s fd ⟨[u], []⟩ [(pn, u)]) ∧ ∀ base : Heap, K.In base → base.Ns mainGlobals mg → (∀ p ∈ cs, LamX.TabB base mg p.1 p.2) → FnG P w K mg base k fa fd [pn] (spOf K asp) := by
  obtain ⟨f, fd, G, hm, hb⟩ := D.ex
  rw [hm] at hmg
  cases hmg
  refine ⟨fd, fun s u => ?_, fun base _ _ tb => ?_⟩
  · obtain ⟨oc, od, kV, doc, pm, an, cdv, ct, osl, rfl, lk, hcd⟩ := G.ex
    exact .of_eq (b kV doc pm an cdv ct [u] rfl)
  · obtain ⟨f', fd', G', h, hm', _⟩ := (hF base tb).ex
    rw [hm] at hm'
    cases hm'
    obtain rfl := fun_uniq G G'
    exact h
/-- the row's end; cs: the code objects that make lambdas, their tables -/
theorem walk_ofT {l : PySem.W.OpenLaw} {n k : Nat} {q : Program} {loose : List Str} {XP : (Str → Option Value) → Heap → Prop} {YP : World → Heap → Prop} {d : DefRec} {K : Params → PySem.W.Frag} {x : Str}
    (hn : l.most = some n) (hn2 : n ≤ sizeLine) (hdf : d.params.defaults = []) (hr : Room k callerA) (hY : ∀ (w : World) (h : Heap), YP w h → (K w.params).In h)
    (F : ∀ (w : World) (lo : List Str) (mean : ExcName → Option Value) (mg mb : Str → Option Value) (fa : Addr) (h : Heap), (K w.params).In h → h.Ns mainGlobals mg → Top q lo mean mg mb h → XP mg h → mg d.name = some (.ref fa) →
      ∃ (cs : List (Addr × Addr)) (fd : FuncData) (sp : Sp), (∀ p ∈ cs, h.get? p.2 = some { cls := .none, data := .fields #[] }) ∧ (∀ p ∈ cs, (K w.params).lookup p.2 = none) ∧ (∀ p ∈ cs, PySem.W.CodeHd h p.1 p.2) ∧
        (∀ (s : Shared) (u : Value), BindsTo s fd ⟨[u], []⟩ [(x, u)]) ∧ (∀ (H : Hp) (a : Addr) (ns : List Int), ns.length ≤ n → (∀ p ∈ cs, H p.2 = some (.tbl #[])) → SqL (K w.params) H a (ns.map V.int) → sp [.ref a] H (fun v _ => v = .bl true) fun _ _ _ => False) ∧
        ∀ base : Heap, (K w.params).In base → base.Ns mainGlobals mg → (∀ p ∈ cs, LamX.TabB base mg p.1 p.2) → FnG l.prog w (K w.params) mg base k fa fd [x] sp) :
    PySem.W.WalkO q loose XP YP l.row.toRowW d [] (fun f vs => PySem.call f vs) := by
  refine Att.attach_call hn hdf fun w s0 s1 mg mb fa o pm cd doc a vs ns G Y ho hd hcd hmg hobj hints hlen hgen => ?_
  obtain ⟨cs, fd, sp, hT, nT, hC, bind, hsp, hF⟩ := F w _ _ mg mb fa _ (hY w _ Y) G.T.g G.T G.X hmg
  exact law_callT (hY w _ Y) G.T.g G.T.b G.T.builtins G.T.nolimit hgen hobj hints (Nat.le_trans hlen hn2) hr hT nT hC G.T.bmain hF bind fun H hH hS => hsp H a ns hlen hH hS
/-- the end with an L3 promise: the tables stand in the store -/
theorem sp_endT {K : PySem.W.Frag} {asp : ASp} {H : Hp} {a P : Addr} {ns : List Int} {qn : Str} (hP : H P = some (.tbl #[])) (hS : SqL K H a (ns.map V.int)) (h : ∀ S Q, S P = some (.tab qn) → (∀ S', Q (.bl true) S') → asp [.rol (ns.map .int)] S Q) :
    spOf K asp [.ref a] H (fun v _ => v = .bl true) fun _ _ _ => False := by
  have allInts : ∀ (S : Store) (ns : List Int), RelAs K H S (ns.map V.int) (ns.map AV.int) := fun S ns => by
    induction ns with
    | nil => exact .nil
    | cons n r ih => exact .cons (.int n) ih
  generalize eS : updS (fun _ => none) P (.tab qn) = S
  have aP : a ≠ P ∨ KLst K a (ns.map V.int) := by
    rcases hS with hq | hq
    · refine .inl fun z => ?_
      subst z
      rcases hq with e | ⟨o, e⟩ <;> rw [hP] at e <;> cases e
    · exact .inr hq
  have r : RelA K H S (.ref a) (.rol (ns.map .int)) := by
    rcases hS with hq | hq
    · refine .rol hq ?_ (allInts S ns)
      have ne : a ≠ P := fun z => by
        subst z
        rcases hq with e | ⟨o, e⟩ <;> rw [hP] at e <;> cases e
      rw [← eS, updS_ne ne]
    · exact .rolK hq (allInts S ns)
  have so : StOk K H S := fun b o z => by
    rw [← eS] at z
    by_cases e : b = P
    · subst e
      rw [updS_same] at z
      cases z
      exact ⟨#[], hP, True.intro, fun pos cv hc => by
        have z : codeAmong pos [] = some cv := hc
        simp [codeAmong] at z⟩
    · rw [updS_ne e] at z
      cases z
  exact ⟨_, S, fun d _ => d = .bl true, .cons r .nil, so, h S _ (by rw [← eS]; exact updS_same) fun S' => rfl, fun d S' v H' so' st' r' e => by subst e; exact rel_blE r'⟩
/-- the end of a law with one def that makes lambdas -/
theorem finT {P0 : Program} {w : World} {K : PySem.W.Frag} {mg : Str → Option Value} {h : Heap} {k n : Nat} {fa c Pt : Addr} {x : Str} {asp : ASp}
    (z : ∃ fd : FuncData, (∀ (s : Shared) (u : Value), BindsTo s fd ⟨[u], []⟩ [(x, u)]) ∧ ∀ base : Heap, K.In base → base.Ns mainGlobals mg → (∀ p ∈ [(c, Pt)], LamX.TabB base mg p.1 p.2) → FnG P0 w K mg base k fa fd [x] (spOf K asp))
    (no : K.lookup Pt = none) (hC : PySem.W.CodeHd h c Pt) (hT : h.get? Pt = some { cls := .none, data := .fields #[] })
    (hend : ∀ (H : Hp) (a : Addr) (ns : List Int), ns.length ≤ n → H Pt = some (.tbl #[]) → SqL K H a (ns.map V.int) → spOf K asp [.ref a] H (fun v _ => v = .bl true) fun _ _ _ => False) :
    ∃ (cs : List (Addr × Addr)) (fd : FuncData) (sp : Sp), (∀ p ∈ cs, h.get? p.2 = some { cls := .none, data := .fields #[] }) ∧ (∀ p ∈ cs, K.lookup p.2 = none) ∧ (∀ p ∈ cs, PySem.W.CodeHd h p.1 p.2) ∧
      (∀ (s : Shared) (u : Value), BindsTo s fd ⟨[u], []⟩ [(x, u)]) ∧ (∀ (H : Hp) (a : Addr) (ns : List Int), ns.length ≤ n → (∀ p ∈ cs, H p.2 = some (.tbl #[])) → SqL K H a (ns.map V.int) → sp [.ref a] H (fun v _ => v = .bl true) fun _ _ _ => False) ∧
      ∀ base : Heap, K.In base → base.Ns mainGlobals mg → (∀ p ∈ cs, LamX.TabB base mg p.1 p.2) → FnG P0 w K mg base k fa fd [x] sp := by
  obtain ⟨fd, z1, z2⟩ := z
  have one : ∀ {q : Addr × Addr → Prop}, q (c, Pt) → ∀ p ∈ [(c, Pt)], q p := fun h p hp => by rw [List.mem_singleton.mp hp]; exact h
  exact ⟨[(c, Pt)], fd, _, one hT, one no, one hC, z1, fun H a ns hl hH hS => hend H a ns hl (hH _ (List.mem_singleton.mpr rfl)) hS, z2⟩
end L3

set_option Elab.async false
set_option linter.all false
set_option maxRecDepth 100000
set_option maxHeartbeats 2000000
set_option autoImplicit false
/-! L4P: repr of values with stored things within: lists, dicts. -/
namespace L3
open PySem L2 PyProof.Rows
variable {bb : Birth}
def keyD : Key → PyData
  | .inl i => .int i
  | .inr x => .str x
mutual
/-- the data of a value; ρ: of what stands at an address -/
def dat (ρ : Addr → Option PyData) : AV → Option PyData
  | .non => some .none
  | .bl b => some (.bool b)
  | .int i => some (.int i)
  | .str x => some (.str x)
  | .tup xs => (dats ρ xs).map .tuple
  | .lst xs => (dats ρ xs).map .list
  | .rol xs => (dats ρ xs).map .list
  | .ref a => ρ a
  | .ty _ => none
def dats (ρ : Addr → Option PyData) : List AV → Option (List PyData)
  | [] => some []
  | x :: xs => match dat ρ x, dats ρ xs with
    | some d, some ds => some (d :: ds)
    | _, _ => none
end
def refD (S : Store) : Nat → Addr → Option PyData
  | 0, _ => none
  | n + 1, a => match S a with
    | some (.lst xs) => (dats (refD S n) xs).map .list
    | some (.dK kvs) => (dats (refD S n) (kvs.map (·.2))).map fun vs => .dict ((kvs.map fun p => keyD p.1).zip vs)
    | _ => none
abbrev datX (S : Store) (x : AV) : Option PyData := dat (refD S 3) x
mutual
/-- no list within -/
def noList : PyData → Bool
  | .list _ => false
  | .tuple xs => noLists xs
  | .dict kvs => noListKv kvs
  | _ => true
def noLists : List PyData → Bool
  | [] => true
  | x :: xs => noList x && noLists xs
def noListKv : List (PyData × PyData) → Bool
  | [] => true
  | (_, v) :: r => noList v && noListKv r
end
mutual
theorem dat_flat (ρ : Addr → Option PyData) : ∀ x : AV, flatA x = true → dat ρ x = some (toD x)
  | .non, _ => rfl
  | .bl _, _ => rfl
  | .int _, _ => rfl
  | .str _, _ => rfl
  | .tup xs, h => by
    have e := dats_flat ρ xs h
    show (dats ρ xs).map _ = _
    rw [e]; rfl
  | .lst xs, h => by
    have e := dats_flat ρ xs h
    show (dats ρ xs).map _ = _
    rw [e]; rfl
  | .rol xs, h => by
    have e := dats_flat ρ xs h
    show (dats ρ xs).map _ = _
    rw [e]; rfl
  | .ref _, h => nomatch h
  | .ty _, h => nomatch h
theorem dats_flat (ρ : Addr → Option PyData) : ∀ xs : List AV, flatAs xs = true → dats ρ xs = some (toDs xs)
  | [], _ => rfl
  | x :: xs, h => by
    have e1 := dat_flat ρ x (Bool.and_eq_true_iff.mp h).1
    have e2 := dats_flat ρ xs (Bool.and_eq_true_iff.mp h).2
    show (match dat ρ x, dats ρ xs with | some d, some ds => some (d :: ds) | _, _ => none) = _
    rw [e1, e2]; rfl
end
section
variable {X : Cx} {pins : List (Addr × Obj)} {σ : L2.St} {H : Hp} {s : Shared} {S : Store} {ρ : Addr → Option PyData}
abbrev RdOk (s : Shared) (u : Value) (d : PyData) : Prop := ∃ as, Reads s.heap u d as ∧ (noList d = true → sysModules ∉ as)
mutual
theorem dat_reads (I : Inv X pins σ H s) (hρ : ∀ a d, ρ a = some d → RdOk s (.ref a) d) : ∀ (x : AV) (v : V) (u : Value) (d : PyData), RelA X.K H S v x → RelV v u → dat ρ x = some d → RdOk s u d
  | .non, _, _, d, .non, r, e => by cases r; cases e; exact ⟨_, Reads.none, fun _ => by simp⟩
  | .bl b, _, _, d, .bl _, r, e => by cases r; cases e; exact ⟨_, Reads.bool b, fun _ => by simp⟩
  | .int i, _, _, d, .int _, r, e => by obtain ⟨t, rfl⟩ := r; cases e; exact ⟨_, Reads.int i t, fun _ => by simp⟩
  | .str x, _, _, d, .str _, r, e => by obtain ⟨t, rfl⟩ := r; cases e; exact ⟨_, Reads.str x t, fun _ => by simp⟩
  | .ref a, _, _, d, .ref _, r, e => by cases r; exact hρ a d e
  | .ty _, _, _, d, _, r, e => nomatch e
  | .tup xs, v, u, d, q, r, e => by
    obtain ⟨a, vs, rfl, sq, rs⟩ := rel_tupE q
    obtain ⟨ds, e1, rfl⟩ := Option.map_eq_some_iff.mp (show (dats ρ xs).map PyData.tuple = some d from e)
    cases r
    obtain ⟨its, rv, ⟨o, ho, hc, n, hd⟩, _⟩ := I.tuple sq
    obtain ⟨as, hr, hn⟩ := dats_reads I hρ xs vs its ds rs rv e1
    exact ⟨_, Reads.tuple ho hc hd hr, hn⟩
  | .lst xs, v, u, d, q, r, e => by
    obtain ⟨ds, e1, rfl⟩ := Option.map_eq_some_iff.mp (show (dats ρ xs).map PyData.list = some d from e)
    cases q with
    | lst h n rs =>
      cases r
      obtain ⟨its, rv, ⟨o, n, ho, hc, _, hd⟩, _⟩ := I.list (.inl (.inl h))
      obtain ⟨as, hr, _⟩ := dats_reads I hρ xs _ its ds rs rv e1
      exact ⟨_, Reads.list ho hc hd hr, fun z => nomatch z⟩
  | .rol xs, v, u, d, q, r, e => by
    obtain ⟨ds, e1, rfl⟩ := Option.map_eq_some_iff.mp (show (dats ρ xs).map PyData.list = some d from e)
    cases q with
    | rol h n rs =>
      cases r
      obtain ⟨its, rv, ⟨o, n, ho, hc, _, hd⟩, _⟩ := I.list (.inl h)
      obtain ⟨as, hr, _⟩ := dats_reads I hρ xs _ its ds rs rv e1
      exact ⟨_, Reads.list ho hc hd hr, fun z => nomatch z⟩
    | rolK h rs =>
      cases r
      obtain ⟨its, rv, ⟨o, n, ho, hc, _, hd⟩, _⟩ := I.list (.inr (by obtain ⟨o, its, n, a1, a2, a3, a4, a5, a6⟩ := h; exact ⟨o, its, n, a1, a2, a3, a4, a5, a6⟩))
      obtain ⟨as, hr, _⟩ := dats_reads I hρ xs _ its ds rs rv e1
      exact ⟨_, Reads.list ho hc hd hr, fun z => nomatch z⟩
theorem dats_reads (I : Inv X pins σ H s) (hρ : ∀ a d, ρ a = some d → RdOk s (.ref a) d) : ∀ (xs : List AV) (vs : List V) (us : List Value) (ds : List PyData), RelAs X.K H S vs xs → Vals vs us → dats ρ xs = some ds → ∃ as, ReadsAll s.heap us ds as ∧ (noLists ds = true → sysModules ∉ as)
  | [], _, _, ds, .nil, r, e => by cases r; cases e; exact ⟨_, .nil, fun _ => by simp⟩
  | x :: xs, _, _, ds, .cons q qs, r, e => by
    cases r with
    | cons r1 r2 =>
      have e' : (match dat ρ x, dats ρ xs with | some d, some ds => some (d :: ds) | _, _ => none) = some ds := e
      cases e1 : dat ρ x with
      | none => rw [e1] at e'; simp at e'
      | some d1 =>
        cases e2 : dats ρ xs with
        | none => rw [e1, e2] at e'; simp at e'
        | some d2 =>
          rw [e1, e2] at e'
          cases e'
          obtain ⟨as, h1, n1⟩ := dat_reads I hρ x _ _ d1 q r1 e1
          obtain ⟨bs, h2, n2⟩ := dats_reads I hρ xs _ _ d2 qs r2 e2
          refine ⟨_, .cons h1 h2, fun z => ?_⟩
          have z' : (noList d1 && noLists d2) = true := z
          rw [Bool.and_eq_true_iff] at z'
          simp only [List.mem_append, not_or]
          exact ⟨n1 z'.1, n2 z'.2⟩
end
theorem keys_reads {prog : Program} {w : World} {h : Heap} : ∀ {es : List DictEntry} {vs : List (Key × Value)}, Pairs (mixKind prog w) es vs → ReadsAll h (es.map (·.key)) (vs.map fun p => keyD p.1) []
  | _, _, .nil => .nil
  | _, _, .cons (e := e) (kv := kv) hk _ t => by
    have t' := keys_reads (h := h) t
    obtain ⟨k, u⟩ := kv
    have hk : keyIs k e.key = true := hk
    rcases keyIs_shape hk with ⟨i, tk, rfl, e1⟩ | ⟨x, tk, rfl, e1⟩
    · have z : Reads h e.key (keyD (.inl i)) [] := by rw [e1]; exact .int i tk
      exact ReadsAll.cons z t'
    · have z : Reads h e.key (keyD (.inr x)) [] := by rw [e1]; exact .str x tk
      exact ReadsAll.cons z t'
theorem vals_of_pairs {prog : Program} {w : World} : ∀ {es : List DictEntry} {vs : List (Key × Value)} {ws : List (Key × V)}, Pairs (mixKind prog w) es vs → KV ws vs → Vals (ws.map (·.2)) (es.map (·.val)) ∧ vs.map (fun p => keyD p.1) = ws.map (fun p => keyD p.1)
  | _, _, _, .nil, .nil => ⟨.nil, rfl⟩
  | _, _, _, .cons _ hv t, .cons r q => by
    obtain ⟨a, b⟩ := vals_of_pairs t q
    obtain ⟨rk, rv⟩ := r
    refine ⟨.cons ?_ a, ?_⟩
    · show L2.RelV _ (DictEntry.val _)
      rw [hv]; exact rv
    · rw [List.map_cons, List.map_cons, b, rk]
theorem zip_fst {α β : Type} : ∀ (xs : List α) (ys : List β), xs.length = ys.length → (xs.zip ys).map (·.1) = xs ∧ (xs.zip ys).map (·.2) = ys
  | [], [], _ => ⟨rfl, rfl⟩
  | x :: xs, y :: ys, h => by
    obtain ⟨a, b⟩ := zip_fst xs ys (Nat.succ.inj h)
    exact ⟨by rw [List.zip_cons_cons, List.map_cons, a], by rw [List.zip_cons_cons, List.map_cons, b]⟩
theorem noKv : ∀ (ks vs : List PyData), ks.length = vs.length → noListKv (ks.zip vs) = noLists vs
  | [], [], _ => rfl
  | k :: ks, v :: vs, h => by
    have e := noKv ks vs (Nat.succ.inj h)
    show (noList v && noListKv (ks.zip vs)) = (noList v && noLists vs)
    rw [e]
theorem reads_len {h : Heap} : ∀ {us : List Value} {ds : List PyData} {as : List Addr}, ReadsAll h us ds as → us.length = ds.length
  | _, _, _, .nil => rfl
  | _, _, _, .cons _ t => congrArg (· + 1) (reads_len t)
theorem ref_reads (I : Inv X pins σ H s) (so : StOk X.K H S) : ∀ (n : Nat) (a : Addr) (d : PyData), refD S n a = some d → RdOk s (.ref a) d
  | 0, _, _, e => nomatch e
  | n + 1, a, d, e => by
    have ih := ref_reads I so n
    unfold refD at e
    cases z : S a with
    | none => rw [z] at e; cases e
    | some o =>
      rw [z] at e
      cases o with
      | lst xs =>
        obtain ⟨ds, e1, rfl⟩ := Option.map_eq_some_iff.mp e
        obtain ⟨vs, h, rs⟩ := so a _ z
        obtain ⟨its, rv, ⟨o, n, ho, hc, _, hd⟩, _⟩ := I.list (.inl (.inl h))
        obtain ⟨as, hr, _⟩ := dats_reads I ih xs _ its ds rs rv e1
        exact ⟨_, Reads.list ho hc hd hr, fun z => nomatch z⟩
      | dK kvs =>
        obtain ⟨ds, e1, rfl⟩ := Option.map_eq_some_iff.mp e
        obtain ⟨ws, h, ek, rs⟩ := so a _ z
        obtain ⟨_, ns, vs, kv, o, es, ep, ho, hx, hd, _, hp, _⟩ := I.hok a _ h
        obtain ⟨rv, ekk⟩ := vals_of_pairs hp kv
        obtain ⟨as, hr, hn⟩ := dats_reads I ih _ _ _ ds rs rv e1
        have lk : (kvs.map fun p => keyD p.1) = ws.map fun p => keyD p.1 := by
          have := congrArg (List.map keyD) ek
          rw [List.map_map, List.map_map] at this
          exact this.symm
        have hl : (kvs.map fun p => keyD p.1).length = ds.length := by
          rw [lk, List.length_map, ← reads_len hr, ← rv.length, List.length_map]
        obtain ⟨z1, z2⟩ := zip_fst _ _ hl
        have kr := keys_reads (h := s.heap) hp
        rw [ekk, ← lk] at kr
        refine ⟨_, Reads.dict (kvs := (kvs.map fun p => keyD p.1).zip ds) (as := []) ho hx.1 hd (by rw [z1]; exact kr) (by rw [z2]; exact hr), fun z => ?_⟩
        have z' : noListKv ((kvs.map fun p => keyD p.1).zip ds) = true := z
        rw [noKv _ _ hl] at z'
        simp only [List.append_nil, List.cons_append, List.nil_append, List.mem_cons, not_or]
        refine ⟨fun q => ?_, hn z'⟩
        subst q
        simp at ns
      | _ => cases e
theorem datX_reads (I : Inv X pins σ H s) (so : StOk X.K H S) {x : AV} {v : V} {u : Value} {d : PyData} (r : RelA X.K H S v x) (rv : RelV v u) (e : datX S x = some d) : RdOk s u d := dat_reads I (fun a d h => ref_reads I so 3 a d h) x v u d r rv e
end
/-- repr of any data -/
def reprD (x : AV) (S : Store) : Ans := ⟨∃ d, datX S x = some d ∧ d.showable = true ∧ (d.hasDict = false ∨ noList d = true) ∧ d.depth ≤ 60 ∧ d.shown.length ≤ sizeLine, .str (((datX S x).map PyData.shown).getD default)⟩
section
variable {X : Cx}
theorem c_reprD (gd : X.A.guards = some []) (hu : X.A.units + 64 < cLine) : CallR X (.builtin "repr") (lowC X.K (one1 reprD)) := by
  intro pins s σ H vs us QH I rv h
  obtain ⟨ds, S, rs, so, ok, k⟩ := h
  match ds, rs, ok, k with
  | [], _, ok, _ => exact ok.elim
  | _ :: _ :: _, _, ok, _ => exact ok.elim
  | [d], rs, ok, k =>
    obtain ⟨x, rfl, r⟩ := rel_one rs
    obtain ⟨u, rfl, ru⟩ := rv.one
    obtain ⟨dd, ed, sh, nd, dp, sz⟩ := ok
    obtain ⟨as, rd, hn⟩ := datX_reads I so r ru ed
    have k2 : ∀ v H', StOk X.K H' S → Step H S H' S → RelA X.K H' S v (.str dd.shown) → QH v H' := fun v H' so' st' r' => k v H' so' st' (by
      show RelA X.K H' S v (.str (((datX S d).map PyData.shown).getD default))
      rw [ed]; exact r')
    have fin : ∀ h' tk tk', (∀ b o, s.heap.get? b = some o → h'.get? b = some o) → EP X pins σ QH (.str dd.shown tk) { s with heap := h', toks := tk' } := fun h' tk tk' hk =>
      ⟨.str _, H, I.kept hk, ⟨tk, rfl⟩, k2 _ H so .refl (.str _)⟩
    have keep0 : ∀ b o, s.heap.get? b = some o → s.heap.get? b = some o := fun _ _ q => q
    have hsm : dd.hasDict = true → sysModules ∉ as := fun z => hn (nd.elim (fun q => by rw [q] at z; cases z) id)
    cases rd with
    | none => exact PySem.P.repr_of_none (fin s.heap _ _ keep0)
    | bool b => exact PySem.P.repr_of_bool (fin s.heap _ _ keep0)
    | int i t => exact PySem.P.repr_of_int (of_decide_eq_true sh) (fin s.heap _ _ keep0)
    | str x t => exact PySem.P.repr_of_str (fin s.heap _ _ keep0) sz
    | list h1 h2 h3 h4 => exact repr_of_reads' (.list h1 h2 h3 h4) sh hsm gd (by omega) keep0 (fun h' tk tk' hk => fin h' tk tk' hk) sz
    | tuple h1 h2 h3 h4 => exact repr_of_reads' (.tuple h1 h2 h3 h4) sh hsm gd (by omega) keep0 (fun h' tk tk' hk => fin h' tk tk' hk) sz
    | dict h1 h2 h3 h4 h5 => exact repr_of_reads' (.dict h1 h2 h3 h4 h5) sh hsm gd (by omega) keep0 (fun h' tk tk' hk => fin h' tk tk' hk) sz
end
theorem kit_not {K : PySem.W.Frag} {C D : Addr} (h1 : PySem.W.isClsIn K D = true) (h2 : PySem.W.typeIn K (.ref D) = some (.type "type")) (h3 : PySem.W.subIn K (.ref C) (.ref D) = some false) (h4 : (Value.ref C == Value.ref D) = false) : PySem.W.kitOne K (.ref C) (.ref D) = some false := by
  have e2 : ((PySem.W.clsIn K D).isSome && PySem.W.typeIn K (.ref D) == some (.type "type")) = true := by
    have h1' : (PySem.W.clsIn K D).isSome = true := h1
    rw [h1', h2] <;> rfl
  show (if (Value.ref C == Value.ref D) = true then some true else (if ((PySem.W.clsIn K D).isSome && PySem.W.typeIn K (.ref D) == some (.type "type")) = true then PySem.W.subIn K (.ref C) (.ref D) else none)) = some false
  rw [if_neg (by rw [h4]; simp), if_pos e2]
  exact h3
/-- repr of a tuple without stored things -/
theorem reprD_flat {xs : List AV} {S : Store} (h : (reprA (.tup xs) S).ok) : reprD (.tup xs) S = ⟨True, .str (toD (.tup xs)).shown⟩ := by
  obtain ⟨h1, h2, h3, h4, h5⟩ := h
  have e : datX S (.tup xs) = some (toD (.tup xs)) := dat_flat _ _ h1
  unfold reprD
  rw [e]
  exact ans_tt ⟨_, rfl, h2, .inl h3, h4, h5⟩ rfl
theorem reprD_val {xs : List AV} {S : Store} {k : Nat} (h : Vm.isVal (.tup xs) k = true) (hk : k ≤ 60) (hc : Vm.cnt (.tup xs) ≤ 700000) : reprD (.tup xs) S = ⟨True, .str (toD (.tup xs)).shown⟩ := reprD_flat (Vm.repr_ok S h hk hc).1
end L3

set_option Elab.async false
set_option linter.all false
set_option maxRecDepth 100000
set_option maxHeartbeats 2000000
set_option autoImplicit false
/-! L4H: list comprehensions over lists, and tuples taken apart, where an exception is being handled. -/
namespace L3
open PySem L2 PyProof.Rows
variable {bb : Birth}
namespace Ht
section
variable {prog : Program} {w : World} {A : Around} {E : Value → Shared → Prop} {s : Shared} {x1 : Addr}
theorem list_end {it l : Addr} {i : Nat} {items : Array Value} {Q : Option Value → Shared → Prop} (hot : HotX.HotAt A x1 s.heap) (hit : s.heap.IsListIter it l i) (hl : s.heap.IsList l items) (hx : items[i]? = none)
    (hQ : ∀ h', Heap.ExtBut it s.heap h' → Q none { s with heap := h' }) : wpAny (model prog w) A (pyNext (.ref it)) Q E s := by
  obtain ⟨hh, o1, vs1, e1, d1, c1⟩ := hot
  obtain ⟨o, ho, hc, hd⟩ := id hit
  obtain ⟨ol, hol, _, nl, hdl⟩ := hl
  have ne : it ≠ x1 := fun z => by
    rw [← z, ho] at e1
    cases e1
    rw [hd] at d1
    cases d1
    cases c1
  unfold pyNext
  refine wpAny_bind (wpAny_attempt (wpAny_callSpecial?_slot (name := Str.ofString "__next__") hit.typeIs slot_listiter_next (wpAny_call_entry slot_listiter_next hit.typeIs entry_listiter_next ?_ (args_listiter_next _))))
  show wpAny _ _ (field (.ref it) 0 >>= _) _ _ s
  refine wpAny_bind (wpAny_field ho hd (x := .ref l) rfl ?_)
  show wpAny _ _ (if (Value.ref l == Value.none) = true then _ else _) _ _ s
  rw [if_neg (show ¬ ((Value.ref l == Value.none) = true) from Bool.false_ne_true)]
  show wpAny _ _ (field (.ref it) 1 >>= _) _ _ s
  refine wpAny_bind (wpAny_field ho hd (x := .int i 0) rfl ?_)
  show wpAny _ _ (seqItems? (.ref l) >>= _) _ _ s
  refine wpAny_bind (wpAny_seqItems hol hdl ?_)
  simp only [Int.toNat_natCast, hx]
  refine wpAny_bind (wpAny_rule (wpAny_bind (wpAny_setField ho hd (by simp) ?_)))
  have k1 : ∀ f, (s.heap.update it f).get? x1 = some o1 := fun f => by rw [Heap.get?_update_other _ _ ne]; exact e1
  show wpAny _ _ (newExc (.type "StopIteration") [] >>= _) _ _ _
  refine wpAny_bind ?_
  simp only [newExc, newTuple]
  refine wpAny_bind (wpAny_newObj_type ?_ (by size_fits))
  refine wpAny_bind (m := firstArgMember _ _) (wpAny_of_eq (a := Value.none) (by first | rfl | (simp only [firstArgMember]; rfl)) ?_)
  refine wpAny_newObj_type ?_ (by size_fits)
  refine HotX.raiseNew_hot ⟨hh, o1, vs1, Heap.get?_push_of_some _ (Heap.get?_push_of_some _ (k1 _)), d1, c1⟩ (Nat.ne_of_lt (Heap.lt_size (Heap.get?_push_of_some _ (k1 _)))) (Heap.get?_push_size _ rfl) rfl (by first | (simp; done) | (simp; omega) | (simp only [Array.size_append]; simp; omega)) ?_
  refine wpAny_bind (wpAny_isInstance (T := "StopIteration") (b := true) ⟨_, Heap.get?_update_self _ (Heap.get?_push_size _ rfl) rfl, rfl⟩ isSubtype_stop ?_)
  refine wpAny_pure (hQ _ fun b u hb e => ?_)
  have e3 : ∀ f, (s.heap.update it f).get? b = some u := fun f => by rw [Heap.get?_update_other _ _ (Ne.symm hb)]; exact e
  rw [Heap.get?_update_other _ _ (Nat.ne_of_gt (Heap.lt_size (Heap.get?_push_of_some _ (e3 _))))]
  exact Heap.get?_push_of_some _ (Heap.get?_push_of_some _ (e3 _))
theorem tup_end {it l : Addr} {i : Nat} {items : Array Value} {Q : Option Value → Shared → Prop} (hot : HotX.HotAt A x1 s.heap) (hit : IsTupIter s.heap it l i) (hl : IsTup s.heap l items) (hx : items[i]? = none)
    (hQ : ∀ h', Heap.ExtBut it s.heap h' → Q none { s with heap := h' }) : wpAny (model prog w) A (pyNext (.ref it)) Q E s := by
  obtain ⟨hh, o1, vs1, e1, d1, c1⟩ := hot
  obtain ⟨o, ho, hc, hd⟩ := id hit
  obtain ⟨ol, hol, _, nl, hdl⟩ := hl
  have ne : it ≠ x1 := fun z => by
    rw [← z, ho] at e1
    cases e1
    rw [hd] at d1
    cases d1
    cases c1
  unfold pyNext
  refine wpAny_bind (wpAny_attempt (wpAny_callSpecial?_slot (name := Str.ofString "__next__") hit.typeIs slot_tupleiter_next (wpAny_call_entry slot_tupleiter_next hit.typeIs entry_tupleiter_next ?_ (args_tupleiter_next _))))
  show wpAny _ _ (field (.ref it) 0 >>= _) _ _ s
  refine wpAny_bind (wpAny_field ho hd (x := .ref l) rfl ?_)
  show wpAny _ _ (if (Value.ref l == Value.none) = true then _ else _) _ _ s
  rw [if_neg (show ¬ ((Value.ref l == Value.none) = true) from Bool.false_ne_true)]
  show wpAny _ _ (field (.ref it) 1 >>= _) _ _ s
  refine wpAny_bind (wpAny_field ho hd (x := .int i 0) rfl ?_)
  show wpAny _ _ (seqItems? (.ref l) >>= _) _ _ s
  refine wpAny_bind (wpAny_seqItems hol hdl ?_)
  simp only [Int.toNat_natCast, hx]
  refine wpAny_bind (wpAny_rule (wpAny_bind (wpAny_setField ho hd (by simp) ?_)))
  have k1 : ∀ f, (s.heap.update it f).get? x1 = some o1 := fun f => by rw [Heap.get?_update_other _ _ ne]; exact e1
  show wpAny _ _ (newExc (.type "StopIteration") [] >>= _) _ _ _
  refine wpAny_bind ?_
  simp only [newExc, newTuple]
  refine wpAny_bind (wpAny_newObj_type ?_ (by size_fits))
  refine wpAny_bind (m := firstArgMember _ _) (wpAny_of_eq (a := Value.none) (by first | rfl | (simp only [firstArgMember]; rfl)) ?_)
  refine wpAny_newObj_type ?_ (by size_fits)
  refine HotX.raiseNew_hot ⟨hh, o1, vs1, Heap.get?_push_of_some _ (Heap.get?_push_of_some _ (k1 _)), d1, c1⟩ (Nat.ne_of_lt (Heap.lt_size (Heap.get?_push_of_some _ (k1 _)))) (Heap.get?_push_size _ rfl) rfl (by first | (simp; done) | (simp; omega) | (simp only [Array.size_append]; simp; omega)) ?_
  refine wpAny_bind (wpAny_isInstance (T := "StopIteration") (b := true) ⟨_, Heap.get?_update_self _ (Heap.get?_push_size _ rfl) rfl, rfl⟩ isSubtype_stop ?_)
  refine wpAny_pure (hQ _ fun b u hb e => ?_)
  have e3 : ∀ f, (s.heap.update it f).get? b = some u := fun f => by rw [Heap.get?_update_other _ _ (Ne.symm hb)]; exact e
  rw [Heap.get?_update_other _ _ (Nat.ne_of_gt (Heap.lt_size (Heap.get?_push_of_some _ (e3 _))))]
  exact Heap.get?_push_of_some _ (Heap.get?_push_of_some _ (e3 _))
/-- a tuple taken apart -/
theorem unpack {t : Addr} {items : Array Value} {targets : List (Bool × (Value → Sem Unit))} {Q : Unit → Shared → Prop} (hot : HotX.HotAt A x1 s.heap) (ht : IsTup s.heap t items) (hn : targets.length = items.size) (hstar : targets.findIdx? (·.1) = none)
    (h : ∀ h', Heap.ExtBut s.heap.objs.size s.heap h' → wpAny (model prog w) A (assignInOrder (targets.map (·.2)) items.toList) Q E { s with heap := h' }) : wpAny (model prog w) A (PySem.unpack (.ref t) targets) Q E s := by
  have hlt : t ≠ s.heap.objs.size := by obtain ⟨o, ho, _⟩ := ht; exact Nat.ne_of_lt (Heap.lt_size ho)
  unfold PySem.unpack
  rw [hn, hstar]
  refine wpAny_bind (wpAny_holding ?_)
  unfold unpackItems
  refine wpAny_bind ?_
  unfold notIterableAtAll
  refine wpAny_bind (wpAny_specialOf ht.typeIs slot_tuple_iter.lookup ?_)
  refine wpAny_pure ?_
  simp only [Bool.false_eq_true, if_false]
  refine wpAny_bind (wpAny_holding (iter_tuple ht ?_))
  refine wpAny_bind (wpAny_holding (draw_tuple hlt items.size 0 _ _ ⟨_, Heap.get?_push_size _ rfl, rfl, rfl⟩ (ht.push _) (by omega) fun h₁ hit₁ hs₁ => ?_))
  have whole : List.take items.size (List.drop 0 items.toList) = items.toList := by
    rw [List.drop_zero]; exact List.take_of_length_le (by simp)
  rw [whole, if_neg (by simp)]
  have ht₁ : IsTup h₁ t items := (ht.push _).extBut hs₁.extBut hlt
  obtain ⟨hh, o1, vs1, e1, d1, c1⟩ := hot
  have hot₁ : HotX.HotAt A x1 h₁ := ⟨hh, o1, vs1, hs₁.extBut _ _ (Nat.ne_of_lt (Heap.lt_size e1)) (Heap.get?_push_of_some _ e1), d1, c1⟩
  refine wpAny_bind (wpAny_holding (tup_end hot₁ hit₁ ht₁ (by simp) fun h₂ he₂ => ?_))
  simp only [Option.isSome_none, Bool.false_eq_true, if_false]
  exact wpAny_pure (h h₂ fun b o hb e => he₂ b o hb (hs₁.extBut b o hb (Heap.get?_push_of_some _ e)))
end
end Ht
/-! ### iterators there -/
structure TurnA (P : Program) (w : World) (K : PySem.W.Frag) (tg : Expr) (J : It) (fp : List Addr) (it : Addr) (tn : Nat → Heap → Prop) : Prop where
  mem : it ∈ fp
  obj : ∀ i h, tn i h → ∀ b ∈ fp, ∃ o, h.get? b = some o ∧ ∀ v, o.data ≠ .cell v
  keep : ∀ i h h', tn i h → (∀ b ∈ fp, ∀ o, h.get? b = some o → h'.get? b = some o) → tn i h'
  item : ∀ (X : Cx), X.prog = P → X.w = w → X.K = K → ∀ (i : Nat) (pins : List (Addr × Obj)) (s : Shared) (σ : L2.St) (H : Hp) (E : Value → Shared → Prop), Inv X pins σ H s → (∃ x1, HotX.HotAt X.A x1 s.heap) → (∀ b ∈ fp, FpOk X pins H b) → tn i s.heap → J.go i H →
    wpAny (model P w) X.A (pyNext (.ref it)) (fun r s1 => ∃ u, r = some u ∧
      wpAny (model P w) X.A (letOwnedTupleGo tg (.ref it) u) (fun _ s2 => ∃ x H', Inv X pins σ H' s2 ∧ L2.RelV x u ∧ J.yld i H x H' ∧ tn (i + 1) s2.heap ∧ ∀ b ∈ fp, H' b = none) E s1) E s
  done : ∀ (X : Cx), X.prog = P → X.w = w → X.K = K → ∀ (i : Nat) (pins : List (Addr × Obj)) (s : Shared) (σ : L2.St) (H : Hp) (E : Value → Shared → Prop), Inv X pins σ H s → (∃ x1, HotX.HotAt X.A x1 s.heap) → (∀ b ∈ fp, FpOk X pins H b) → tn i s.heap → J.stop i H →
    wpAny (model P w) X.A (pyNext (.ref it)) (fun r s1 => r = none ∧ Inv X pins σ H s1) E s
  self : ∀ (A : Around) (i : Nat) (s : Shared) (Q : Value → Shared → Prop) (E : Value → Shared → Prop), tn i s.heap → Q (.ref it) s → wpAny (model P w) A (pyIter (.ref it)) Q E s
def PIEA (X : Cx) (pins : List (Addr × Obj)) (σ : L2.St) (tg : Expr) (R : It → Hp → Prop) (itv : Value) (s2 : Shared) : Prop :=
  ∃ (it : Addr) (fp : List Addr) (tn : Nat → Heap → Prop) (J : It) (H' : Hp), itv = .ref it ∧ Inv X pins σ H' s2 ∧ TurnA X.prog X.w X.K tg J fp it tn ∧ tn 0 s2.heap ∧ (∀ b ∈ fp, FpOk X pins H' b) ∧ R J H'
structure PIA (X : Cx) (tg iter : Expr) (wi : TI) : Prop where
  run : ∀ (pins : List (Addr × Obj)) (s : Shared) (σ : L2.St) (H : Hp) (R : It → Hp → Prop), Inv X pins σ H s → wi σ H R →
    wpAny (model X.prog X.w) X.A (eval iter X.env) (fun v s1 => wpAny (model X.prog X.w) X.A (pyIter v) (PIEA X pins σ tg R) X.xe s1) X.xe s
theorem PIA.weak {X : Cx} {tg iter : Expr} {t t' : TI} (h : PIA X tg iter t) (w : ∀ σ H Q, t' σ H Q → t σ H Q) : PIA X tg iter t' := ⟨fun pins s σ H Q I q => h.run pins s σ H Q I (w σ H Q q)⟩
theorem turn_listA {P : Program} {w : World} {K : PySem.W.Frag} {tg : Expr} (a it : Addr) : TurnA P w K tg (Itl K a) [it] it (fun i h => h.IsListIter it a i) where
  mem := List.mem_cons_self
  obj := (turn_list (P := P) (w := w) (K := K) (tg := tg) a it).obj
  keep := (turn_list (P := P) (w := w) (K := K) (tg := tg) a it).keep
  item := by
    rintro X rfl rfl rfl i pins s σ H E I _ own at_ ⟨xs, x, hq, hx⟩
    obtain ⟨its, rv, p, _⟩ := I.list hq
    obtain ⟨u, hu, ru⟩ := rv.get hx
    obtain ⟨f0, f1, f2, f3, f4, f5⟩ := own it List.mem_cons_self
    refine wpAny_pyNext_list_item at_ p.isList (x := u) (by simpa using hu) fun h' at2 sb => ?_
    have J : Inv X pins σ H { s with heap := h' } := I.turned (t' := s.toks) (fun b o hb e => (sb.2 b hb).trans e) f0 f1 f3 f4 f5
    obtain ⟨o, e, c, d⟩ := id at2
    exact ⟨u, rfl, go_of (s := { s with heap := h' }) e c d (by decide) ⟨x, H, J, ru, ⟨rfl, fun ys hy => by rw [I.list_inj hy hq]; exact hx⟩, at2, fun b hb => (own b hb).1⟩⟩
  done := by
    rintro X rfl rfl rfl i pins s σ H E I ⟨x1, hot⟩ own at_ ⟨xs, hq, hx⟩
    obtain ⟨its, rv, p, _⟩ := I.list hq
    obtain ⟨f0, f1, f2, f3, f4, f5⟩ := own it List.mem_cons_self
    have hl := rv.length
    exact Ht.list_end hot at_ p.isList (by simp; omega) fun h' eb => ⟨rfl, I.turned (t' := s.toks) (fun b o hb e => eb b o hb e) f0 f1 f3 f4 f5⟩
  self := fun _ _ _ _ _ st h => wpAny_pyIter_listiter st h
theorem pia_list {X : Cx} {tg l : Expr} {tl : TE} (hl : PE X l tl) : PIA X tg l (iList X.K tl) := by
  refine ⟨fun pins s σ H R I h => thn (hl.run pins s σ H _ I h) fun v s1 ⟨x, H1, I1, r1, a, e, ⟨xs, hq⟩, q⟩ => ?_⟩
  subst e
  cases r1
  obtain ⟨its, rv, p, _⟩ := I1.list hq
  refine wpAny_pyIter_list p.isList ⟨s1.heap.objs.size, [s1.heap.objs.size], _, _, H1, rfl, I1.kept (t' := s1.toks) fun b o e => Heap.get?_push_of_some _ e, turn_listA a _, ⟨_, Heap.get?_push_size _ rfl, rfl, rfl⟩, fun b hb => ?_, q⟩
  obtain rfl : b = s1.heap.objs.size := by simpa using hb
  exact I1.fpOk (Nat.le_refl _) (I1.hok.fresh (Nat.le_refl _))
theorem pe_lcH {X : Cx} {elt tg iter : Expr} {ifs : List Expr} {scope : Scope} {own : List (Str × Nat)} {pos : Pos} {wi : TI} {g : TG} {tt : TT} {te : TE} (hot : ∀ {pins σ H s}, Inv X pins σ H s → ∃ x1, HotX.HotAt X.A x1 s.heap) (nd : X.N.Nodup) (hi : PIA X tg iter wi) (ok : BlkOk X.N X.env.scope scope own)
    (hg : ∀ (s : Shared) (H : Hp) (C : Addr) (cl : List (Str × Addr)) (fp : List Addr), (∀ {pins σ' H' s'}, Inv (X.blk s H scope (compEnvC scope cl C X.env) fp) pins σ' H' s' → ∃ x1, HotX.HotAt X.A x1 s'.heap) → PG (X.blk s H scope (compEnvC scope cl C X.env) fp) tg g)
    (ht : ∀ (s : Shared) (H : Hp) (C : Addr) (cl : List (Str × Addr)) (fp : List Addr), PTs (X.blk s H scope (compEnvC scope cl C X.env) fp) ifs tt)
    (he : ∀ (s : Shared) (H : Hp) (C : Addr) (cl : List (Str × Addr)) (fp : List Addr), PE (X.blk s H scope (compEnvC scope cl C X.env) fp) elt te)
    (plain : ∀ x, foldedSetIterable iter X.env x = pure x := by intro _; rfl) : PE X (.ListComp elt [⟨tg, iter, ifs, 0⟩] scope pos) (tLc wi g tt te (own.map (·.2))) := by
  refine ⟨fun pins s σ H Q I h => ?_⟩
  have look : ∀ y ∈ scope.names, y.2 = .free → ∃ c, X.env.cells.lookup y.1 = some c := fun y hy e => (ok.free y hy e).elim (fun z => I.ok.has _ (.inl z)) fun z => I.ok.has _ (.inr z)
  rw [eval_ListComp]
  refine wpAny_comprehension_free (use := none) rfl plain (closure_ok look) ok.kind (fun y hy e => (ok.uniq y hy).trans (congrArg some e)) (thn (hi.run pins s σ H _ I h) fun _ _ h1 => thn h1 fun _ s2 h2 => ?_)
  obtain ⟨it, fp, tn, J, H2, rfl, I2, T, ready, own2, q⟩ := h2
  refine wpAny_newObj_type (newEnv_comp ?_) (Nat.zero_le sizeLine)
  have fresh : H2 s2.heap.objs.size = none := I2.hok.fresh (Nat.le_refl _)
  obtain ⟨Wn, ⟨m0, w0⟩, turn⟩ := q _ fresh
  have below : ∀ b ∈ fp, b < s2.heap.objs.size := fun b hb => let ⟨_, e, _⟩ := T.obj _ _ ready b hb; Heap.lt_size e
  -- the state with the new list: (sA, HA)
  have IA : Inv X pins σ (upd H2 s2.heap.objs.size (.lst [])) { s2 with heap := s2.heap.push { cls := .type "list", data := .seq ([] : List Value).toArray } } :=
    I2.laid (t' := s2.toks) (fun _ _ z => Heap.get?_push_of_some _ z) (Nat.le_refl _) ⟨Nat.zero_le _, [], 0, .nil, Heap.get?_push_size _ rfl⟩
  have readyA : tn 0 (s2.heap.push { cls := .type "list", data := .seq ([] : List Value).toArray }) := T.keep _ _ _ ready fun _ _ _ z => Heap.get?_push_of_some _ z
  have ownA : ∀ b ∈ fp, FpOk X pins (upd H2 s2.heap.objs.size (.lst [])) b ∧ b < (s2.heap.push { cls := .type "list", data := .seq ([] : List Value).toArray }).objs.size := fun b hb => by
    refine ⟨⟨?_, (own2 b hb).2⟩, by rw [Heap.size_push]; exact Nat.lt_succ_of_lt (below b hb)⟩
    rw [upd_ne (Nat.ne_of_lt (below b hb))]
    exact (own2 b hb).1
  generalize upd H2 s2.heap.objs.size (.lst []) = HA at IA ownA w0
  generalize hD : s2.heap.objs.size = D at turn w0 ⊢
  generalize hA : ({ s2 with heap := s2.heap.push { cls := .type "list", data := .seq ([] : List Value).toArray } } : Shared) = sA at IA
  have hAh : s2.heap.push { cls := .type "list", data := .seq ([] : List Value).toArray } = sA.heap := congrArg Shared.heap hA
  rw [hAh] at readyA ownA
  have IB := block_start IA ok nd ownA
  have pg := hg sA HA sA.heap.objs.size (cellsFrom (sA.heap.objs.size + 1) scope.names (cloFrom X.env.cells scope.names [])) fp
  have pt := ht sA HA sA.heap.objs.size (cellsFrom (sA.heap.objs.size + 1) scope.names (cloFrom X.env.cells scope.names [])) fp
  have pe := he sA HA sA.heap.objs.size (cellsFrom (sA.heap.objs.size + 1) scope.names (cloFrom X.env.cells scope.names [])) fp
  have goal2 : codeAny (model X.prog X.w) X.A (.compStart (.ListComp elt [⟨tg, iter, ifs, 0⟩] scope pos) 0 (.ref it) (.ref D) (compEnvC scope (cellsFrom (sA.heap.objs.size + 1) scope.names (cloFrom X.env.cells scope.names [])) sA.heap.objs.size X.env))
      (compPost (model X.prog X.w) X.A X.xe none (EP X pins σ Q) (.ref D) sA.heap.objs.size) { sA with heap := pushCells (sA.heap.push { cls := .type "dict", data := .dict #[] }) scope.names } := by
    generalize hce : compEnvC scope (cellsFrom (sA.heap.objs.size + 1) scope.names (cloFrom X.env.cells scope.names [])) sA.heap.objs.size X.env = ce at IB pg pt pe
    have cloc : ce.locals = sA.heap.objs.size := by rw [← hce]; rfl
    have readyB : tn 0 (pushCells (sA.heap.push { cls := .type "dict", data := .dict #[] }) scope.names) := T.keep _ _ _ readyA fun _ _ _ z => pushCells_keeps _ _ _ _ (Heap.get?_push_of_some _ z)
    generalize hB : ({ sA with heap := pushCells (sA.heap.push { cls := .type "dict", data := .dict #[] }) scope.names } : Shared) = sB at IB ⊢
    have readyB : tn 0 sB.heap := by rw [← hB]; exact readyB
    -- back to the def's own context
    have back : ∀ {pn : List (Addr × Obj)} {σ' : L2.St} {H' : Hp} {s' : Shared}, Inv (X.blk sA HA scope ce fp) pn σ' H' s' → Inv X pins σ H' s' := fun {pn σ' H' s'} Z =>
      IA.call' (ch := fp) Z.os Z.base Z.hok Z.bare fun b hb => let z := (ownA b hb).1; ⟨z.2.2.2.1, z.2.1, z.2.2.2.2.1, z.2.2.2.2.2⟩
    have pg := pg fun Z => hot (back Z)
    have foot : ∀ {σ' : L2.St} {H' : Hp} {s' : Shared}, Inv (X.blk sA HA scope ce fp) [] σ' H' s' → (∀ b ∈ fp, H' b = none) → ∀ b ∈ fp, FpOk (X.blk sA HA scope ce fp) [] H' b := fun {σ' H' s'} Z n b hb =>
      ⟨n b hb, (Z.ok.exf b hb).1, Z.ok.exfs b hb, .inl hb, (Z.ok.exf b hb).2, fun p hp => by cases (show p ∈ ([] : List (Addr × Obj)) ++ [] from hp)⟩
    have loop : codeAny (model X.prog X.w) X.A (.compLoop (.ListComp elt [⟨tg, iter, ifs, 0⟩] scope pos) 0 (.ref it) (.ref D) ce) (compPost (model X.prog X.w) X.A X.xe none (EP X pins σ Q) (.ref D) sA.heap.objs.size) sB := by
      refine compLoop_any (fun n s' => ∃ i H', Inv (X.blk sA HA scope ce fp) [] (wipe σ (own.map (·.2))) H' s' ∧ tn i s'.heap ∧ (∀ b ∈ fp, H' b = none) ∧ Wn i n H') ?_ m0 ⟨0, HA, IB, readyB, fun b hb => (ownA b hb).1.1, w0⟩
      intro n s5 ⟨i, H5, I5, r5, n5, w5⟩
      rcases turn i n H5 w5 with ⟨halt, qq⟩ | ⟨more, Nx, hNx, step⟩
      · refine thnF (T.done (X.blk sA HA scope ce fp) rfl rfl rfl i [] s5 _ H5 (fun _ _ => False) I5 (hot (back I5)) (foot I5 n5) r5 halt) fun r s6 ⟨er, I6⟩ => ?_
        subst er
        have I7 := back I6
        have nC : H5 sA.heap.objs.size = none := by rw [← cloc]; exact I6.free
        obtain ⟨m, hn, _⟩ := I6.loc
        have hn : s6.heap.Ns sA.heap.objs.size m := by rw [← cloc]; exact hn
        obtain ⟨g0, g1, g2, g3, g4, g5⟩ := IA.fpOk (H' := H5) (Nat.le_refl _) nC
        exact ⟨m, hn, fun h'' sb => ⟨.ref D, H5, I7.turned (t' := s6.toks) (fun b o hb z => (sb.2 b hb).trans z) g0 g1 g3 g4 g5, rfl, qq⟩⟩
      · refine thnF (T.item (X.blk sA HA scope ce fp) rfl rfl rfl i [] s5 _ H5 (fun _ _ => False) I5 (hot (back I5)) (foot I5 n5) r5 more) fun r s6 ⟨u, er, h6⟩ => ?_
        subst er
        refine thnF h6 fun _ s7 ⟨x, H7, I7, r7, y7, st7, n7⟩ => ?_
        refine thnF (pg.run _ s7 _ H7 x u _ (I7.pinned (foot I7 n7) (T.obj _ _ st7)) r7 (step x H7 y7)) fun _ s8 ⟨σ8, H8, I8, hw8, q8⟩ => ?_
        refine thnF (pt.run _ s8 σ8 H8 _ I8 q8) fun b s9 ⟨H9, I9, q9⟩ => ?_
        have len8 : (wipe σ (own.map (·.2))).length = σ8.length := by rw [← hw8, wipe_length]
        have next : ∀ {s' : Shared} {H' : Hp}, Inv (X.blk sA HA scope ce fp) ([] ++ pinsAt fp s7.heap) σ8 H' s' → Nx H' → ∃ m, m < n ∧ ∃ i H', Inv (X.blk sA HA scope ce fp) [] (wipe σ (own.map (·.2))) H' s' ∧ tn i s'.heap ∧ (∀ b ∈ fp, H' b = none) ∧ Wn i m H' := by
          intro s' H' Z nx
          obtain ⟨m', hm, w'⟩ := hNx H' nx
          have kept : ∀ b ∈ fp, ∀ o, s7.heap.get? b = some o → s'.heap.get? b = some o ∧ H' b = none := fun b hb o z => by
            obtain ⟨a1, a2, _⟩ := Z.pin (b, o) (List.mem_append_right _ (List.mem_append_right _ (mem_pinsAt hb z)))
            exact ⟨a1, a2⟩
          refine ⟨m', hm, i + 1, H', (Z.unpinned (pins := [])).weak len8 (fun j v e => (wipe_some (by rw [hw8]; exact e)).1), T.keep _ _ _ st7 fun b hb o z => (kept b hb o z).1, fun b hb => ?_, w'⟩
          obtain ⟨o, z, _⟩ := T.obj _ _ st7 b hb
          exact (kept b hb o z).2
        cases b with
        | false => exact next I9 q9
        | true =>
          refine thnF (pe.run _ s9 σ8 H9 _ I9 q9) fun z s10 ⟨yv, H10, I10, r10, acc, hD10, room, nx⟩ => ?_
          exact app_ok (X := X.blk sA HA scope ce fp) I10 hD10 room r10 fun s11 I11 => next I11 nx
    exact codeAny_compStart_list loop (T.self X.A 0 _ _ _ readyB loop)
  subst hA
  exact goal2

theorem i_lstA {X : Cx} {tg e : Expr} {ta : AE} (h : PE X e (low (kx X bb) ta)) : PIA X tg e (lowI (kx X bb) (aiLst ta)) := (pia_list h).weak fun σ H R ⟨τ, S, Q, Rr, so, q, k⟩ => ⟨τ, S, _, Rr, so, q, fun v H1 d S1 so1 st1 r1 ⟨xs, e, q1⟩ => by
  obtain ⟨a, vs, rfl, hl, rs⟩ := rel_lstE so1 r1 e
  refine ⟨a, rfl, ⟨vs, hl⟩, k _ H1 xs _ S1 so1 st1 (fun H' S' so' st' g => ?_) q1⟩
  obtain ⟨a', ws, ea, hl', rs'⟩ := rel_lstE so' (r1.step st') g
  cases ea
  refine ⟨fun i x hx => ?_, ws, hl', by rw [rs'.length]; exact Nat.le_refl _⟩
  obtain ⟨w, hw, rw'⟩ := rs'.get hx
  refine ⟨⟨ws, w, hl', hw⟩, fun v H'' ⟨e1, e2⟩ => ?_⟩
  subst e1
  have := e2 ws hl'
  rw [hw] at this
  cases this
  exact ⟨so', .refl, rw'⟩⟩
theorem pg_tupA {X : Cx} {es : List Expr} {k : Nat} {t : TGs} {n : Nat} {pos : Pos} (hot : ∀ {pins σ H s}, Inv X pins σ H s → ∃ x1, HotX.HotAt X.A x1 s.heap) (h : PGs X es t) (hn : (assignEach es X.env).length = n := by rfl) (hst : (assignEach es X.env).findIdx? (·.1) = none := by rfl) : PG X (.Tuple es k pos) (gTup X.K n t) := by
  refine ⟨fun pins s σ H v u Q I r ⟨a, xs, e1, hq, hl, hw⟩ => ?_⟩
  subst e1
  cases r
  obtain ⟨its, rv, ht, _⟩ := I.tuple hq
  obtain ⟨x1, hot⟩ := hot I
  rw [assign_Tuple]
  refine wpAny_bind (wpAny_standAt (Ht.unpack hot ht (by simp [hn, ← hl, rv.length]) hst fun h' hx => ?_))
  have J : Inv X pins σ H { s with heap := h' } := I.kept (t' := s.toks) fun b o e => hx b o (Nat.ne_of_lt (Heap.lt_size e)) e
  exact h.run pins _ σ H xs _ Q J (by simpa using rv) hw
section
variable {X : Cx} {elt tg iter : Expr} {ifs : List Expr} {scope : Scope} {own : List (Str × Nat)} {ai : AI} {tt : AT} {te : AE} {pos : Pos}
/-- [e for x, y in xs if t], where an exception is handled -/
theorem e_lcPH (j jj : Nat) (own : List (Str × Nat)) (hot : ∀ {pins σ H s}, Inv X pins σ H s → ∃ x1, HotX.HotAt X.A x1 s.heap) (hN : X.N.Nodup) (hi : PIA X tg iter (lowI (kx X bb) ai)) (ok : BlkOk X.N X.env.scope scope own)
    (hg : ∀ (s : Shared) (H : Hp) (C : Addr) (cl : List (Str × Addr)) (fp : List Addr), (∀ {pins σ' H' s'}, Inv (X.blk s H scope (compEnvC scope cl C X.env) fp) pins σ' H' s' → ∃ x1, HotX.HotAt X.A x1 s'.heap) → PG (X.blk s H scope (compEnvC scope cl C X.env) fp) tg (gTup X.K 2 (gCons (gName j) (gCons (gName jj) gNil))))
    (ht : ∀ (s : Shared) (H : Hp) (C : Addr) (cl : List (Str × Addr)) (fp : List Addr), PTs (X.blk s H scope (compEnvC scope cl C X.env) fp) ifs (lowT (kx X bb) tt))
    (he : ∀ (s : Shared) (H : Hp) (C : Addr) (cl : List (Str × Addr)) (fp : List Addr), PE (X.blk s H scope (compEnvC scope cl C X.env) fp) elt (low (kx X bb) te))
    (hj : j ∈ own.map (·.2) := by decide) (hjj : jj ∈ own.map (·.2) := by decide) (hs : ∀ x, foldedSetIterable iter X.env x = pure x := by intro _; rfl) : PE X (.ListComp elt [⟨tg, iter, ifs, 0⟩] scope pos) (low (kx X bb) (aLcP ai j jj tt te (own.map (·.2)))) :=
  (pe_lcH (own := own) hot hN hi ok hg ht he hs).weak (lcP_low hj hjj rfl rfl)
end
/-- an except suite's exception, as it stands -/
theorem hot_suite {X : Cx} {a : Addr} {oe : Obj} {pn : List (Addr × Obj)} {vs : Array Value} (hd : oe.data = .fields vs) (h2 : vs[2]? = some .none) {pins : List (Addr × Obj)} {σ : L2.St} {H : Hp} {s : Shared} (I : Inv (X.suite a ((a, oe) :: pn)) pins σ H s) : ∃ x1, HotX.HotAt (X.suite a ((a, oe) :: pn)).A x1 s.heap :=
  ⟨a, rfl, oe, vs, (I.pin (a, oe) (List.mem_append.mpr (.inl List.mem_cons_self))).1, hd, h2⟩
end L3

set_option Elab.async false
set_option linter.all false
set_option maxRecDepth 100000
set_option maxHeartbeats 2000000
set_option autoImplicit false
/-! L4E: exceptions as things: made, kept, asked for their kind and value. -/
namespace L3
open PySem L2 PyProof.Rows
variable {bb : Birth}
theorem exv_ok {P : Program} {w : World} {H : Hp} {h : Heap} {C d a : Addr} (e : ExV C d a h) : ObjOk P w H h a (.ext (ExV C d a)) :=
  ⟨e, let ⟨oe, _, h1, _⟩ := e; ⟨oe, h1⟩, fun h1 h2 ⟨oe, vs, e1, e2, e3⟩ k => ⟨oe, vs, k oe e1, e2, e3⟩⟩
/-- C(e) as a value -/
def aMkE (C : Addr) (ta : AE) : AE := fun τ S Q => ta τ S fun v S1 => ∀ a, S1 a = none → Q (.ref a) (updS S1 a (.exc C v))
section
variable {X : Cx} {C D f : Addr} {x : Str} {e : Expr} {ta : AE} {p pos : Pos}
theorem e_mkE (HI : HInit X.prog X.w X.K X.mg D f) (T : Exn X.prog X.w X.K X.mg D f C) (hm : X.mg x = some (.ref C)) (hr : Room 1 X.A) (he : PE X e (low (kx X bb) ta)) (hg : Gl X x := by rfl) (hdb : (x == ("__debug__" : Str)) = false := by decide)
    (hs : starEach [e] X.env = (false, eval e X.env) :: starEach [] X.env := by rfl) : PE X (.Call (.Name x p) [e] [] pos) (low (kx X bb) (aMkE C ta)) := by
  refine ⟨fun pins s σ H QH I ⟨τ, S, Q, R, so, q, k⟩ => ?_⟩
  refine thn ((pmkV HI T hm hr he hg hdb hs) pins s σ H (fun cls d H2 => ∃ H1 S1 y v, cls = .ref C ∧ d ≠ none ∧ (∀ dd, d = some dd → H1 dd = none ∧ H2 = upd H1 dd (.xd [(("value" : Str), y)])) ∧ StOk X.K H1 S1 ∧ Step H S H1 S1 ∧ RelA X.K H1 S1 y v ∧ ∀ a, S1 a = none → Q (.ref a) (updS S1 a (.exc C v))) I
    ⟨τ, S, _, R, so, q, fun y H1 v S1 so1 st1 r1 q1 => fun d hd => ⟨H1, S1, y, v, rfl, by simp, fun dd e => by cases e; exact ⟨hd, rfl⟩, so1, st1, r1, q1⟩⟩) fun u s' hu => ?_
  obtain ⟨a, oe, vs, sI, H2, cls, d, rfl, J, kp, hne, ha, hz, hd, _, na, os, ag, _, H1, S1, y, v, rfl, hdn, hdd, so1, st1, r1, q1⟩ := hu
  cases d with
  | none => exact (hdn rfl).elim
  | some dd =>
    obtain ⟨nd, rfl⟩ := hdd dd rfl
    have J2 := J.laidN (t' := s'.toks) (h' := s'.heap) (o := .ext (ExV C dd a)) kp hne na (exv_ok ⟨oe, vs, ha, hz.zc, hd⟩)
    have J3 : Inv X pins σ (upd (upd H1 dd (.xd [(("value" : Str), y)])) a (.ext (ExV C dd a))) s' := by
      have z := J2.step (g' := s'.gens) (t' := s'.toks) (d' := s'.drawn) (ch := []) (H' := upd (upd H1 dd (.xd [(("value" : Str), y)])) a (.ext (ExV C dd a))) (h' := s'.heap) (fun b hb => (nomatch hb)) (fun b o _ _ _ z _ => z) (fun b o _ _ _ z _ => ⟨o.slots, z⟩) (fun _ _ _ _ n => n) (fun b o _ z => ⟨o, z⟩) (fun _ _ z => z) (fun _ _ _ z => z)
        (fun b ps z => ⟨#[], by rw [z]; simp⟩) (fun m z => z) J2.hok ag
      have e : ({ sI with heap := s'.heap, gens := s'.gens, drawn := s'.drawn, toks := s'.toks } : Shared) = s' := GxR.sh_eta sI s' os
      rw [← e]
      exact z
    have n1 : H1 a = none := by
      by_cases h : a = dd
      · subst h
        rw [upd_same] at na
        cases na
      · rw [upd_ne h] at na
        exact na
    have ne : dd ≠ a := fun z => by
      subst z
      rw [upd_same] at na
      cases na
    have st2 := step_new (o := .xd [(("value" : Str), y)]) so1 nd
    have so2 := stok_new (o := .xd [(("value" : Str), y)]) so1 nd
    have st3 := step_put (o := .ext (ExV C dd a)) (u := .exc C v) so2 na
    refine ⟨.ref a, _, J3, rfl, k _ _ (.ref a) _ (stok_put (u := .exc C v) so2 na ⟨dd, y, upd_same, by rw [upd_ne ne, upd_same], by rw [updS_ne ne]; exact so1.fresh nd, (r1.step st2).step st3⟩) ((st1.trans st2).trans st3) (.ref a) (q1 a (so1.fresh n1))⟩
end
/-! ### its kind -/
def rIsT (K : PySem.W.Frag) : List V → Hp → VK → Prop := fun xs H Q => ∃ (a C d : Addr) (c : V) (cv : Value) (b : Bool) (fs : List (Str × V)), xs = [.ref a, c] ∧ H a = some (.ext (ExV C d a)) ∧ H d = some (.xd fs) ∧ ExcC K C ∧ (∀ u, L2.RelV c u → u = cv) ∧ PySem.W.kitOne K (.ref C) cv = some b ∧ Q (.bl b) H
theorem call_isT {X : Cx} : CallR X (.builtin "isinstance") (rIsT X.K) := by
  intro pins s σ H xs us Q I r h
  obtain ⟨a, C, d, c, cv, b, fs, rfl, h1, h2, hC, hcv, e, q⟩ := h
  cases r with
  | cons rx rr =>
    cases rr with
    | cons rt rr =>
      cases rr
      cases rx
      have ec := hcv _ rt
      subst ec
      obtain ⟨⟨oe, vs, hget, hz, hv⟩, _, _⟩ := I.hok a _ h1
      have hx : ObjOk X.prog X.w H s.heap d (.xd fs) := I.hok d _ h2
      obtain ⟨mA, hns, hr⟩ := hx
      obtain ⟨od, ho, hl⟩ := lookIn_ns hns
      have J : PySem.W.InstAt s.heap a oe C (some od) := ⟨hget, hz.1, by unfold PySem.W.notCls; rw [hv] <;> rfl, by rw [hz.2]; exact ho⟩
      exact PySem.W.kia_one (XK.kitx_exc hC.hg hC.hk hC.hs hC.hd hC.ha hC.hn hC.ht hC.hm) I.kIn J e (fun z => nomatch z) fun tk => ⟨.bl b, H, I.kept (t' := tk) fun _ _ z => z, rfl, q⟩
/-- what stands at the second place of isinstance -/
def kindV : AV → Option Value
  | .ref c => some (.ref c)
  | .ty n => some (.type n)
  | _ => none
/-- isinstance(e, c), e a kept exception -/
def aIsT (K : PySem.W.Frag) (t : AA) : AE := fun τ S Q => t τ S fun ds S1 => ∃ a C v c cv b, ds = [.ref a, c] ∧ S1 a = some (.exc C v) ∧ ExcC K C ∧ kindV c = some cv ∧ PySem.W.kitOne K (.ref C) cv = some b ∧ Q (.bl b) S1
theorem e_isT {X : Cx} {e : Expr} {es : List Expr} {t : AA} {p pos : Pos} (hm : X.mg "isinstance" = none) (ha : PA X (e :: es) (lowA (kx X bb) t)) (hg : Gl X "isinstance" := by rfl)
    (he : starEach (e :: es) X.env = (false, eval e X.env) :: starEach es X.env := by rfl) (hpl : (backTo pos (starEach es X.env)).any (·.1) = false := by rfl) : PE X (.Call (.Name "isinstance" p) (e :: es) [] pos) (low (kx X bb) (aIsT X.K t)) :=
  (pe_callB call_isT hg hm (by decide +kernel) ha (by decide) (by decide) he hpl).weak fun σ H QH ⟨τ, S, Q, R, so, q, k⟩ => ⟨τ, S, _, R, so, q, fun vs H1 ds S1 so1 st1 r1 ⟨a, C, v, c, cv, b, ed, hs, hC, hc, hk, q1⟩ => by
    subst ed
    obtain ⟨d, y, h1, h2, _, _⟩ := so1 a _ hs
    cases r1 with
    | cons rx rr =>
      cases rr with
      | cons rt rr =>
        cases rr
        obtain rfl := rel_refE rx
        cases c with
        | ref c0 =>
          obtain rfl := rel_refE rt
          cases hc
          exact ⟨a, C, d, .ref c0, _, b, _, rfl, h1, h2, hC, fun u h => h, hk, k _ H1 _ S1 so1 st1 (.bl b) q1⟩
        | ty n =>
          obtain rfl := rel_tyE rt
          cases hc
          exact ⟨a, C, d, .ty n, _, b, _, rfl, h1, h2, hC, fun u h => h, hk, k _ H1 _ S1 so1 st1 (.bl b) q1⟩
        | _ => cases hc⟩
/-! ### its value -/
def aErrT (K : PySem.W.Frag) (te : AE) : AE := fun τ S Q => te τ S fun x S1 => ∃ a C v, x = .ref a ∧ S1 a = some (.exc C v) ∧ XfV K C ∧ Q v S1
theorem e_errT {X : Cx} {e : Expr} {te : AE} {pos : Pos} (he : PE X e (low (kx X bb) te)) (hb : attributeBase e "value" X.env (eval e X.env) = eval e X.env := by rfl) : PE X (.Attribute e "value" pos) (low (kx X bb) (aErrT X.K te)) := by
  refine ⟨fun pins s σ H QH I ⟨τ, S, Q, R, so, q, k⟩ => ?_⟩
  refine attr_of hb (thn (he.run pins s σ H (fun x H1 => ∃ S1 dx, StOk X.K H1 S1 ∧ Step H S H1 S1 ∧ RelA X.K H1 S1 x dx ∧ ∃ a C v, dx = .ref a ∧ S1 a = some (.exc C v) ∧ XfV X.K C ∧ Q v S1) I ⟨τ, S, _, R, so, q, fun x H1 dx S1 so1 st1 r1 q1 => ⟨S1, dx, so1, st1, r1, q1⟩⟩) fun u s1 hh => ?_)
  obtain ⟨x, H1, I1, rx, S1, dx, so1, st1, r1, a, C, v, rfl, hs, hX, q1⟩ := hh
  obtain rfl := rel_refE r1
  obtain rfl : u = Value.ref a := rx
  obtain ⟨d, y, h1, h2, _, ry⟩ := so1 a _ hs
  obtain ⟨⟨oe, vs, hget, hz, hv⟩, _, _⟩ := I1.hok a _ h1
  have hx : ObjOk X.prog X.w H1 s1.heap d (.xd [(("value" : Str), y)]) := I1.hok d _ h2
  obtain ⟨mA, hns, hr⟩ := hx
  obtain ⟨od, ho, hl⟩ := lookIn_ns hns
  obtain ⟨u, hu, ru⟩ := RelO.some_of (v := y) (o := mA "value") (by
    have z := hr "value"
    rw [show List.lookup ("value" : Str) [(("value" : Str), y)] = some y by simp [List.lookup]] at z
    exact z)
  have J : PySem.W.InstAt s1.heap a oe C (some od) := ⟨hget, hz.1, by unfold PySem.W.notCls; rw [hv] <;> rfl, by rw [hz.2]; exact ho⟩
  exact HandSPX.exc_get I1.kIn J hX.1.ga hX.1.gg hX.1.exC (PySem.W.findObj_own hX.1.hdC hX.2.1 rfl (by rw [hl, hu])) (handed_of ru) ⟨y, H1, I1.tok _, ru, k y H1 v S1 so1 st1 ry q1⟩
/-! ### != of a dict and itself -/
theorem valAt_mem {kvs : List (Key × Value)} (nd : (kvs.map (·.1)).Nodup) : ∀ {k : Key} {v : Value}, (k, v) ∈ kvs → valueAt kvs k = some v := by
  induction kvs with
  | nil => intro k v h; cases h
  | cons p r ih =>
    intro k v h
    rw [List.map_cons, List.nodup_cons] at nd
    unfold valueAt
    rw [List.find?_cons]
    rcases List.mem_cons.mp h with e | e
    · subst e
      simp
    · have ne : p.1 ≠ k := fun z => nd.1 (by rw [z]; exact List.mem_map.mpr ⟨(k, v), e, rfl⟩)
      rw [decide_eq_false ne]
      exact ih nd.2 e
theorem hits_self {A : Around} {s : Shared} {kvs : List (Key × Value)} (nd : (kvs.map (·.1)).Nodup) : ∀ ks : List (Key × Value), (∀ p ∈ ks, p ∈ kvs) → PySem.W.KeqHits A s kvs ks true
  | [], _ => .nil
  | (k, v) :: r, h => by
    have z := PySem.W.KeqHits.hit (A := A) (s := s) (e := true) (b := true) (valAt_mem nd (h (k, v) List.mem_cons_self)) (SeqAt.EqAt.same v) (hits_self nd r fun p hp => h p (List.mem_cons_of_mem _ hp))
    exact z
def neAD (x y : AV) (S : Store) : Ans := match x with
  | .ref a => match S a with
    | some (.dK _) => match y with
      | .ref b => ⟨a = b, .bl false⟩
      | _ => badA
    | _ => neA x y S
  | _ => neA x y S
theorem o_neD {X : Cx} (hu : X.A.units + 64 < cLine) : OpR X (compareOp .NotEq) (lowO X.K neAD) := by
  intro pins s σ H x y v u Q I rx ry h
  have plain : ∀ dx dy S, (neAD dx dy S = neA dx dy S) → RelA X.K H S x dx → RelA X.K H S y dy → StOk X.K H S → (neAD dx dy S).ok → (∀ v H', StOk X.K H' S → Step H S H' S → RelA X.K H' S v (neAD dx dy S).v → Q v H') → wpAny (model X.prog X.w) X.A (compareOp .NotEq v u) (EP X pins σ Q) X.xe s := fun dx dy S e r1 r2 so ok k =>
    (o_ne hu) pins s σ H x y v u Q I rx ry ⟨dx, dy, S, r1, r2, so, by rw [← e]; exact ok, fun v H' a b c => k v H' a b (by rw [e]; exact c)⟩
  obtain ⟨dx, dy, S, r1, r2, so, ok, k⟩ := h
  cases dx with
  | ref a =>
    cases z : S a with
    | none => exact plain _ dy S (by simp only [neAD, z]) r1 r2 so ok k
    | some o =>
      cases o with
      | dK kvs =>
        cases dy with
        | ref b =>
          have e : neAD (.ref a) (.ref b) S = ⟨a = b, .bl false⟩ := by simp only [neAD, z]
          rw [e] at ok k
          have ok : a = b := ok
          subst ok
          obtain rfl := rel_refE r1
          obtain rfl := rel_refE r2
          obtain rfl : v = Value.ref a := rx
          obtain rfl : u = Value.ref a := ry
          obtain ⟨ws, h, ek, rs⟩ := so a _ z
          obtain ⟨_, ns, vs, kv, dd⟩ := I.hok a _ h
          have nd : (vs.map (·.1)).Nodup := by obtain ⟨o, es, ep, _, _, _, _, _, nd⟩ := dd; exact nd
          have hit := hits_self (A := X.A.in1) (s := s) nd vs fun p hp => hp
          refine PySem.W.keq_ne (knd := mixKind X.prog X.w) ns ns dd dd (by omega) (fun _ => hit) ⟨.bl false, H, I, ?_, k _ H so .refl (.bl false)⟩
          show Value.bool _ = Value.bool false
          simp
        | _ => simp only [neAD, z] at ok; exact ok.elim
      | _ => exact plain _ dy S (by simp only [neAD, z]) r1 r2 so ok k
  | _ => exact plain _ dy S rfl r1 r2 so ok k
/-! ### {'a': 1} -/
def aDispC (k : Key) (v : AV) : AE := fun _ S Q => ∀ l, S l = none → Q (.ref l) (updS S l (.dK [(k, v)]))
theorem e_dispSI {X : Cx} {kx : Str} {n : Int} {j j2 : Nat} {p1 p2 pos : Pos} : PE X (.Dict [some (.Constant (.str kx) j p1)] [.Constant (.int n) j2 p2] pos) (low (L3.kx X bb) (aDispC (.inr kx) (.int n))) :=
  (pe_disp (pps_cons pe_str pe_int pps_nil) rfl rfl (by simp) (Nat.le_of_ble_eq_true rfl)).weak fun σ H QH ⟨τ, S, Q, R, so, q, k⟩ => fun l hl => by
    refine ⟨upd_same, [(.inr kx, .int n)], rfl, Nat.le_of_ble_eq_true rfl, ?_⟩
    rw [upd_upd]
    have n1 := so.fresh hl
    exact k _ _ (.ref l) _ (stok_put (u := .dK [(.inr kx, .int n)]) so hl ⟨_, upd_same, rfl, .cons (.int n) .nil⟩) (step_put so hl) (.ref l) (q l n1)
end L3

set_option Elab.async false
set_option linter.all false
set_option maxRecDepth 100000
set_option maxHeartbeats 1000000
/-! L4F: xs.count(y) of a list of flat things. -/
namespace L3
open L2 PySem PySem.Spec PyProof.Rows
section
variable {X : Cx}
def rCountF (K : PySem.W.Frag) : V → List V → Hp → VK → Prop := fun x xs H Q => ∃ (a : Addr) (ys : List V) (y : V), x = V.ref a ∧ xs = [y] ∧ SqL K H a ys ∧ flatV y = true ∧ ys.all flatV = true ∧ Q (.int (ys.countP (fun z => eqV z y) : Nat)) H
theorem countU {y : V} {uy : Value} : ∀ {ys : List V} {us : List Value}, Vals ys us → ys.all flatV = true → us.countP (eqU y) = ys.countP fun z => eqV z y
  | _, _, .nil, _ => rfl
  | z :: zs, u :: us, .cons r t, f => by
    rw [List.all_cons, Bool.and_eq_true] at f
    have ih := countU (y := y) (uy := uy) t f.2
    have e := eqU_of (x := y) (y := z) r f.1
    rw [List.countP_cons, List.countP_cons, ih, e]
theorem mt_countF : MtR X "list.count" (rCountF X.K) := by
  intro pins s σ H x xs v us Q I rx rxs h
  obtain ⟨a, ys, y, rfl, rfl, hs, fy, fys, q⟩ := h
  cases rx
  cases rxs with
  | cons ry rt =>
    rename_i uy ut
    cases rt
    obtain ⟨its, rv, ⟨⟨cls, dd, data, sl⟩, n, ho, hc, hdn, hd⟩, hlen⟩ := I.list hs
    simp only at hc hd
    subst hc hd
    refine call_meets PySem.F.slot_list_count ⟨_, ho, rfl⟩ PySem.F.entry_list_count (PySem.F.args_list_count_2 _ _)
      (SeqAt.list_countAt a its.toArray n dd sl uy (eqU y)) ⟨ho, fun u' hu' => mem_eqAt ry fy rv fys u' (by simpa using hu'), ?_⟩
    have ec : its.toArray.toList.countP (eqU y) = ys.countP fun z => eqV z y := countU (uy := uy) rv fys
    refine ⟨.int (ys.countP (fun z => eqV z y) : Nat), H, I.tok _, ⟨s.toks, ?_⟩, q⟩
    show Value.int ((its.toArray.toList.countP (eqU y) : Nat) : Int) s.toks = Value.int ((ys.countP (fun z => eqV z y) : Nat) : Int) s.toks
    rw [ec]
def mCountF (x : AV) (as : List AV) (S : Store) (Q : AK) : Prop := ∃ xs y, lstA S x = some xs ∧ as = [y] ∧ fl1 y = true ∧ xs.all fl1 = true ∧ Q (.int (xs.countP (fun z => eq1 z y) : Nat)) S
theorem countV {y : AV} (f1 : fl1 y = true) : ∀ xs : List AV, xs.all fl1 = true → (xs.map toV).countP (fun z => eqV z (toV y)) = xs.countP fun z => eq1 z y
  | [], _ => rfl
  | z :: zs, f => by
    rw [List.all_cons, Bool.and_eq_true] at f
    rw [List.map_cons, List.countP_cons, List.countP_cons, countV f1 zs f.2, eq1_V f.1 f1]
theorem m_countF : MtR X "list.count" (lowM X.K mCountF) := mtr_weak mt_countF fun x vs H QH ⟨dx, as, S, Q, rx, rs, so, ⟨xs, y, ex, ea, f1, f2, q⟩, k⟩ => by
  subst ea
  obtain ⟨w, rfl, rw'⟩ := rel_one rs
  obtain ⟨a, ws, rfl, hl, rl⟩ := rel_lstE so rx ex
  have e1 := rel_fl rw' f1
  have e2 := rel_fls rl f2
  subst e1 e2
  refine ⟨a, _, _, rfl, rfl, hl, toV_flat f1, toVs_flat f2, ?_⟩
  rw [countV f1 xs f2]
  exact k _ H _ S so .refl (.int _) q
end
end L3

set_option Elab.async false
set_option linter.all false
set_option maxRecDepth 100000
set_option maxHeartbeats 1000000
set_option pp.maxSteps 3000
namespace G
open PySem L2 L3 PyProof.Rows
def top (i : Nat) : Stmt := PySem.Challenge.pw_lyinghouse_k89_errors_keep_any_value.main.body.getD i (.Pass ⟨0, 0, 0, 0⟩)
def mth (i j : Nat) : Stmt := match top i with
  | .ClassDef _ _ _ body _ _ _ _ _ _ _ => body.getD j (.Pass ⟨0, 0, 0, 0⟩)
  | s => s
abbrev st__law_pot : Stmt := top 50
abbrev nm__law_pot : List Str := ["script", "place", "cell", "own", "small"]
theorem sc__law_pot : FnScope nm__law_pot ["script", "place"] (defScope st__law_pot) := ⟨rfl, rfl, rfl, by decide +kernel, rfl, by decide +kernel, by decide +kernel⟩
abbrev st__law_take : Stmt := top 51
abbrev nm__law_take : List Str := ["pot", "upto", "digit", "prime", "blend"]
theorem sc__law_take : FnScope nm__law_take ["pot", "upto"] (defScope st__law_take) := ⟨rfl, rfl, rfl, by decide +kernel, rfl, by decide +kernel, by decide +kernel⟩
abbrev st__law_cells : Stmt := top 53
abbrev nm__law_cells : List Str := ["script", "most"]
theorem sc__law_cells : FnScope nm__law_cells ["script", "most"] (defScope st__law_cells) := ⟨rfl, rfl, rfl, by decide +kernel, rfl, by decide +kernel, by decide +kernel⟩
abbrev st__law_kinds_too : Stmt := top 59
abbrev nm__law_kinds_too : List Str := ["error", "found"]
theorem sc__law_kinds_too : FnScope nm__law_kinds_too ["error"] (defScope st__law_kinds_too) := ⟨rfl, rfl, rfl, by decide +kernel, rfl, by decide +kernel, by decide +kernel⟩
abbrev st__law_kinds_more : Stmt := top 60
abbrev nm__law_kinds_more : List Str := ["error", "found"]
theorem sc__law_kinds_more : FnScope nm__law_kinds_more ["error"] (defScope st__law_kinds_more) := ⟨rfl, rfl, rfl, by decide +kernel, rfl, by decide +kernel, by decide +kernel⟩
abbrev st__law_of : Stmt := top 52
abbrev nm__law_of : List Str := ["pot", "some"]
theorem sc__law_of : FnScope nm__law_of ["pot", "some"] (defScope st__law_of) := ⟨rfl, rfl, rfl, by decide +kernel, rfl, by decide +kernel, by decide +kernel⟩
abbrev st__law_made_too : Stmt := top 56
abbrev nm__law_made_too : List Str := ["value", "found"]
theorem sc__law_made_too : FnScope nm__law_made_too ["value"] (defScope st__law_made_too) := ⟨rfl, rfl, rfl, by decide +kernel, rfl, by decide +kernel, by decide +kernel⟩
abbrev st__law_made_more : Stmt := top 57
abbrev nm__law_made_more : List Str := ["value", "found"]
theorem sc__law_made_more : FnScope nm__law_made_more ["value"] (defScope st__law_made_more) := ⟨rfl, rfl, rfl, by decide +kernel, rfl, by decide +kernel, by decide +kernel⟩
abbrev st__law_kinds : Stmt := top 58
abbrev nm__law_kinds : List Str := ["error", "found"]
theorem sc__law_kinds : FnScope nm__law_kinds ["error"] (defScope st__law_kinds) := ⟨rfl, rfl, rfl, by decide +kernel, rfl, by decide +kernel, by decide +kernel⟩
abbrev st__law_odd : Stmt := top 54
abbrev nm__law_odd : List Str := ["pot", "some"]
theorem sc__law_odd : FnScope nm__law_odd ["pot"] (defScope st__law_odd) := ⟨rfl, rfl, rfl, by decide +kernel, rfl, by decide +kernel, by decide +kernel⟩
abbrev st__law_made : Stmt := top 55
abbrev nm__law_made : List Str := ["value", "found"]
theorem sc__law_made : FnScope nm__law_made ["value"] (defScope st__law_made) := ⟨rfl, rfl, rfl, by decide +kernel, rfl, by decide +kernel, by decide +kernel⟩
abbrev st__law_right : Stmt := top 61
abbrev nm__law_right : List Str := ["pot", "lap", "value", "errors", "base", "at", "error"]
theorem sc__law_right : FnScope nm__law_right ["pot"] (defScope st__law_right) := ⟨rfl, rfl, rfl, by decide +kernel, rfl, by decide +kernel, by decide +kernel⟩
abbrev st_law : Stmt := top 62
abbrev nm_law : List Str := ["script", "place"]
theorem sc_law : FnScope nm_law ["script"] (defScope st_law) := ⟨rfl, rfl, rfl, by decide +kernel, rfl, by decide +kernel, by decide +kernel⟩
def excL0 (C_HouseError : Addr) (f_HouseError : Addr) (C_BadValue : Addr) (C_BadText : Addr) (C_BadValues : Addr) (C_BadDeed : Addr) (C_BadPath : Addr) (C_NoFile : Addr) (C_BadDeeds : Addr) (C_BadTree : Addr) (C_BadName : Addr) (C_BadNumber : Addr) (C_BadSeal : Addr) (C_OtherBody : Addr) (C_NoBlock : Addr) (C_BadRoot : Addr) (C_BadKey : Addr) (C_BadMap : Addr) (C_NoKey : Addr) (C_BadRows : Addr) (C_BadFile : Addr) (C_Beyond : Addr) (C_TooLong : Addr) (C_BadImage : Addr) (C_BadSteps : Addr) (C_BadChoices : Addr) (C_TooFull : Addr) (C_BadNames : Addr) (C_BadPast : Addr) (C_BadCounts : Addr) (C_NoRow : Addr) (C_NoDesk : Addr) (C_NotOwn : Addr) (C_TooMany : Addr) (C_Cheated : Addr) (C_Busy : Addr) (C_NotOpen : Addr) (C_BadRoots : Addr) (C_Full : Addr) (C_BadTellings : Addr) (C_Never : Addr) (C_BadEvents : Addr) (C_BadRule : Addr) (C_BadLine : Addr) (C_NotBusy : Addr) (C_BadAnswer : Addr) (C_BadDay : Addr) (C_DayOver : Addr) (C_NoName : Addr) : List Addr := [C_BadValue, C_BadText, C_BadValues, C_BadDeed, C_BadPath, C_NoFile, C_BadDeeds, C_BadTree, C_BadName, C_BadNumber, C_BadSeal, C_OtherBody, C_NoBlock, C_BadRoot, C_BadKey, C_BadMap, C_NoKey, C_BadRows, C_BadFile, C_Beyond, C_TooLong, C_BadImage, C_BadSteps, C_BadChoices, C_TooFull, C_BadNames, C_BadPast, C_BadCounts, C_NoRow, C_NoDesk, C_NotOwn, C_TooMany, C_Cheated, C_Busy, C_NotOpen, C_BadRoots, C_Full, C_BadTellings, C_Never, C_BadEvents, C_BadRule, C_BadLine, C_NotBusy, C_BadAnswer, C_BadDay, C_DayOver, C_NoName]
def excL (C_HouseError : Addr) (f_HouseError : Addr) (C_BadValue : Addr) (C_BadText : Addr) (C_BadValues : Addr) (C_BadDeed : Addr) (C_BadPath : Addr) (C_NoFile : Addr) (C_BadDeeds : Addr) (C_BadTree : Addr) (C_BadName : Addr) (C_BadNumber : Addr) (C_BadSeal : Addr) (C_OtherBody : Addr) (C_NoBlock : Addr) (C_BadRoot : Addr) (C_BadKey : Addr) (C_BadMap : Addr) (C_NoKey : Addr) (C_BadRows : Addr) (C_BadFile : Addr) (C_Beyond : Addr) (C_TooLong : Addr) (C_BadImage : Addr) (C_BadSteps : Addr) (C_BadChoices : Addr) (C_TooFull : Addr) (C_BadNames : Addr) (C_BadPast : Addr) (C_BadCounts : Addr) (C_NoRow : Addr) (C_NoDesk : Addr) (C_NotOwn : Addr) (C_TooMany : Addr) (C_Cheated : Addr) (C_Busy : Addr) (C_NotOpen : Addr) (C_BadRoots : Addr) (C_Full : Addr) (C_BadTellings : Addr) (C_Never : Addr) (C_BadEvents : Addr) (C_BadRule : Addr) (C_BadLine : Addr) (C_NotBusy : Addr) (C_BadAnswer : Addr) (C_BadDay : Addr) (C_DayOver : Addr) (C_NoName : Addr) : List Addr := C_HouseError :: excL0 C_HouseError f_HouseError C_BadValue C_BadText C_BadValues C_BadDeed C_BadPath C_NoFile C_BadDeeds C_BadTree C_BadName C_BadNumber C_BadSeal C_OtherBody C_NoBlock C_BadRoot C_BadKey C_BadMap C_NoKey C_BadRows C_BadFile C_Beyond C_TooLong C_BadImage C_BadSteps C_BadChoices C_TooFull C_BadNames C_BadPast C_BadCounts C_NoRow C_NoDesk C_NotOwn C_TooMany C_Cheated C_Busy C_NotOpen C_BadRoots C_Full C_BadTellings C_Never C_BadEvents C_BadRule C_BadLine C_NotBusy C_BadAnswer C_BadDay C_DayOver C_NoName
structure Txt (P : Program) (w : World) (K : PySem.W.Frag) (mg : Str → Option Value) (C_HouseError : Addr) (f_HouseError : Addr) (C_BadValue : Addr) (C_BadText : Addr) (C_BadValues : Addr) (C_BadDeed : Addr) (C_BadPath : Addr) (C_NoFile : Addr) (C_BadDeeds : Addr) (C_BadTree : Addr) (C_BadName : Addr) (C_BadNumber : Addr) (C_BadSeal : Addr) (C_OtherBody : Addr) (C_NoBlock : Addr) (C_BadRoot : Addr) (C_BadKey : Addr) (C_BadMap : Addr) (C_NoKey : Addr) (C_BadRows : Addr) (C_BadFile : Addr) (C_Beyond : Addr) (C_TooLong : Addr) (C_BadImage : Addr) (C_BadSteps : Addr) (C_BadChoices : Addr) (C_TooFull : Addr) (C_BadNames : Addr) (C_BadPast : Addr) (C_BadCounts : Addr) (C_NoRow : Addr) (C_NoDesk : Addr) (C_NotOwn : Addr) (C_TooMany : Addr) (C_Cheated : Addr) (C_Busy : Addr) (C_NotOpen : Addr) (C_BadRoots : Addr) (C_Full : Addr) (C_BadTellings : Addr) (C_Never : Addr) (C_BadEvents : Addr) (C_BadRule : Addr) (C_BadLine : Addr) (C_NotBusy : Addr) (C_BadAnswer : Addr) (C_BadDay : Addr) (C_DayOver : Addr) (C_NoName : Addr) : Prop where
  n_ValueError : mg "ValueError" = none
  n_abs : mg "abs" = none
  n_all : mg "all" = none
  n_enumerate : mg "enumerate" = none
  n_int : mg "int" = none
  n_isinstance : mg "isinstance" = none
  n_len : mg "len" = none
  n_list : mg "list" = none
  n_max : mg "max" = none
  n_min : mg "min" = none
  n_range : mg "range" = none
  n_repr : mg "repr" = none
  n_sum : mg "sum" = none
  g_HouseError : mg "HouseError" = some (.ref C_HouseError)
  ex_HouseError : Exn P w K mg C_HouseError f_HouseError C_HouseError
  xc_HouseError : ExcC K C_HouseError
  g_BadValue : mg "BadValue" = some (.ref C_BadValue)
  ex_BadValue : Exn P w K mg C_HouseError f_HouseError C_BadValue
  xc_BadValue : ExcC K C_BadValue
  g_BadText : mg "BadText" = some (.ref C_BadText)
  ex_BadText : Exn P w K mg C_HouseError f_HouseError C_BadText
  xc_BadText : ExcC K C_BadText
  g_BadValues : mg "BadValues" = some (.ref C_BadValues)
  ex_BadValues : Exn P w K mg C_HouseError f_HouseError C_BadValues
  xc_BadValues : ExcC K C_BadValues
  g_BadDeed : mg "BadDeed" = some (.ref C_BadDeed)
  ex_BadDeed : Exn P w K mg C_HouseError f_HouseError C_BadDeed
  xc_BadDeed : ExcC K C_BadDeed
  g_BadPath : mg "BadPath" = some (.ref C_BadPath)
  ex_BadPath : Exn P w K mg C_HouseError f_HouseError C_BadPath
  xc_BadPath : ExcC K C_BadPath
  g_NoFile : mg "NoFile" = some (.ref C_NoFile)
  ex_NoFile : Exn P w K mg C_HouseError f_HouseError C_NoFile
  xc_NoFile : ExcC K C_NoFile
  g_BadDeeds : mg "BadDeeds" = some (.ref C_BadDeeds)
  ex_BadDeeds : Exn P w K mg C_HouseError f_HouseError C_BadDeeds
  xc_BadDeeds : ExcC K C_BadDeeds
  g_BadTree : mg "BadTree" = some (.ref C_BadTree)
  ex_BadTree : Exn P w K mg C_HouseError f_HouseError C_BadTree
  xc_BadTree : ExcC K C_BadTree
  g_BadName : mg "BadName" = some (.ref C_BadName)
  ex_BadName : Exn P w K mg C_HouseError f_HouseError C_BadName
  xc_BadName : ExcC K C_BadName
  g_BadNumber : mg "BadNumber" = some (.ref C_BadNumber)
  ex_BadNumber : Exn P w K mg C_HouseError f_HouseError C_BadNumber
  xc_BadNumber : ExcC K C_BadNumber
  g_BadSeal : mg "BadSeal" = some (.ref C_BadSeal)
  ex_BadSeal : Exn P w K mg C_HouseError f_HouseError C_BadSeal
  xc_BadSeal : ExcC K C_BadSeal
  g_OtherBody : mg "OtherBody" = some (.ref C_OtherBody)
  ex_OtherBody : Exn P w K mg C_HouseError f_HouseError C_OtherBody
  xc_OtherBody : ExcC K C_OtherBody
  g_NoBlock : mg "NoBlock" = some (.ref C_NoBlock)
  ex_NoBlock : Exn P w K mg C_HouseError f_HouseError C_NoBlock
  xc_NoBlock : ExcC K C_NoBlock
  g_BadRoot : mg "BadRoot" = some (.ref C_BadRoot)
  ex_BadRoot : Exn P w K mg C_HouseError f_HouseError C_BadRoot
  xc_BadRoot : ExcC K C_BadRoot
  g_BadKey : mg "BadKey" = some (.ref C_BadKey)
  ex_BadKey : Exn P w K mg C_HouseError f_HouseError C_BadKey
  xc_BadKey : ExcC K C_BadKey
  g_BadMap : mg "BadMap" = some (.ref C_BadMap)
  ex_BadMap : Exn P w K mg C_HouseError f_HouseError C_BadMap
  xc_BadMap : ExcC K C_BadMap
  g_NoKey : mg "NoKey" = some (.ref C_NoKey)
  ex_NoKey : Exn P w K mg C_HouseError f_HouseError C_NoKey
  xc_NoKey : ExcC K C_NoKey
  g_BadRows : mg "BadRows" = some (.ref C_BadRows)
  ex_BadRows : Exn P w K mg C_HouseError f_HouseError C_BadRows
  xc_BadRows : ExcC K C_BadRows
  g_BadFile : mg "BadFile" = some (.ref C_BadFile)
  ex_BadFile : Exn P w K mg C_HouseError f_HouseError C_BadFile
  xc_BadFile : ExcC K C_BadFile
  g_Beyond : mg "Beyond" = some (.ref C_Beyond)
  ex_Beyond : Exn P w K mg C_HouseError f_HouseError C_Beyond
  xc_Beyond : ExcC K C_Beyond
  g_TooLong : mg "TooLong" = some (.ref C_TooLong)
  ex_TooLong : Exn P w K mg C_HouseError f_HouseError C_TooLong
  xc_TooLong : ExcC K C_TooLong
  g_BadImage : mg "BadImage" = some (.ref C_BadImage)
  ex_BadImage : Exn P w K mg C_HouseError f_HouseError C_BadImage
  xc_BadImage : ExcC K C_BadImage
  g_BadSteps : mg "BadSteps" = some (.ref C_BadSteps)
  ex_BadSteps : Exn P w K mg C_HouseError f_HouseError C_BadSteps
  xc_BadSteps : ExcC K C_BadSteps
  g_BadChoices : mg "BadChoices" = some (.ref C_BadChoices)
  ex_BadChoices : Exn P w K mg C_HouseError f_HouseError C_BadChoices
  xc_BadChoices : ExcC K C_BadChoices
  g_TooFull : mg "TooFull" = some (.ref C_TooFull)
  ex_TooFull : Exn P w K mg C_HouseError f_HouseError C_TooFull
  xc_TooFull : ExcC K C_TooFull
  g_BadNames : mg "BadNames" = some (.ref C_BadNames)
  ex_BadNames : Exn P w K mg C_HouseError f_HouseError C_BadNames
  xc_BadNames : ExcC K C_BadNames
  g_BadPast : mg "BadPast" = some (.ref C_BadPast)
  ex_BadPast : Exn P w K mg C_HouseError f_HouseError C_BadPast
  xc_BadPast : ExcC K C_BadPast
  g_BadCounts : mg "BadCounts" = some (.ref C_BadCounts)
  ex_BadCounts : Exn P w K mg C_HouseError f_HouseError C_BadCounts
  xc_BadCounts : ExcC K C_BadCounts
  g_NoRow : mg "NoRow" = some (.ref C_NoRow)
  ex_NoRow : Exn P w K mg C_HouseError f_HouseError C_NoRow
  xc_NoRow : ExcC K C_NoRow
  g_NoDesk : mg "NoDesk" = some (.ref C_NoDesk)
  ex_NoDesk : Exn P w K mg C_HouseError f_HouseError C_NoDesk
  xc_NoDesk : ExcC K C_NoDesk
  g_NotOwn : mg "NotOwn" = some (.ref C_NotOwn)
  ex_NotOwn : Exn P w K mg C_HouseError f_HouseError C_NotOwn
  xc_NotOwn : ExcC K C_NotOwn
  g_TooMany : mg "TooMany" = some (.ref C_TooMany)
  ex_TooMany : Exn P w K mg C_HouseError f_HouseError C_TooMany
  xc_TooMany : ExcC K C_TooMany
  g_Cheated : mg "Cheated" = some (.ref C_Cheated)
  ex_Cheated : Exn P w K mg C_HouseError f_HouseError C_Cheated
  xc_Cheated : ExcC K C_Cheated
  g_Busy : mg "Busy" = some (.ref C_Busy)
  ex_Busy : Exn P w K mg C_HouseError f_HouseError C_Busy
  xc_Busy : ExcC K C_Busy
  g_NotOpen : mg "NotOpen" = some (.ref C_NotOpen)
  ex_NotOpen : Exn P w K mg C_HouseError f_HouseError C_NotOpen
  xc_NotOpen : ExcC K C_NotOpen
  g_BadRoots : mg "BadRoots" = some (.ref C_BadRoots)
  ex_BadRoots : Exn P w K mg C_HouseError f_HouseError C_BadRoots
  xc_BadRoots : ExcC K C_BadRoots
  g_Full : mg "Full" = some (.ref C_Full)
  ex_Full : Exn P w K mg C_HouseError f_HouseError C_Full
  xc_Full : ExcC K C_Full
  g_BadTellings : mg "BadTellings" = some (.ref C_BadTellings)
  ex_BadTellings : Exn P w K mg C_HouseError f_HouseError C_BadTellings
  xc_BadTellings : ExcC K C_BadTellings
  g_Never : mg "Never" = some (.ref C_Never)
  ex_Never : Exn P w K mg C_HouseError f_HouseError C_Never
  xc_Never : ExcC K C_Never
  g_BadEvents : mg "BadEvents" = some (.ref C_BadEvents)
  ex_BadEvents : Exn P w K mg C_HouseError f_HouseError C_BadEvents
  xc_BadEvents : ExcC K C_BadEvents
  g_BadRule : mg "BadRule" = some (.ref C_BadRule)
  ex_BadRule : Exn P w K mg C_HouseError f_HouseError C_BadRule
  xc_BadRule : ExcC K C_BadRule
  g_BadLine : mg "BadLine" = some (.ref C_BadLine)
  ex_BadLine : Exn P w K mg C_HouseError f_HouseError C_BadLine
  xc_BadLine : ExcC K C_BadLine
  g_NotBusy : mg "NotBusy" = some (.ref C_NotBusy)
  ex_NotBusy : Exn P w K mg C_HouseError f_HouseError C_NotBusy
  xc_NotBusy : ExcC K C_NotBusy
  g_BadAnswer : mg "BadAnswer" = some (.ref C_BadAnswer)
  ex_BadAnswer : Exn P w K mg C_HouseError f_HouseError C_BadAnswer
  xc_BadAnswer : ExcC K C_BadAnswer
  g_BadDay : mg "BadDay" = some (.ref C_BadDay)
  ex_BadDay : Exn P w K mg C_HouseError f_HouseError C_BadDay
  xc_BadDay : ExcC K C_BadDay
  g_DayOver : mg "DayOver" = some (.ref C_DayOver)
  ex_DayOver : Exn P w K mg C_HouseError f_HouseError C_DayOver
  xc_DayOver : ExcC K C_DayOver
  g_NoName : mg "NoName" = some (.ref C_NoName)
  ex_NoName : Exn P w K mg C_HouseError f_HouseError C_NoName
  xc_NoName : ExcC K C_NoName
  hi_HouseError : HInit P w K mg C_HouseError f_HouseError
  kall : (excL C_HouseError f_HouseError C_BadValue C_BadText C_BadValues C_BadDeed C_BadPath C_NoFile C_BadDeeds C_BadTree C_BadName C_BadNumber C_BadSeal C_OtherBody C_NoBlock C_BadRoot C_BadKey C_BadMap C_NoKey C_BadRows C_BadFile C_Beyond C_TooLong C_BadImage C_BadSteps C_BadChoices C_TooFull C_BadNames C_BadPast C_BadCounts C_NoRow C_NoDesk C_NotOwn C_TooMany C_Cheated C_Busy C_NotOpen C_BadRoots C_Full C_BadTellings C_Never C_BadEvents C_BadRule C_BadLine C_NotBusy C_BadAnswer C_BadDay C_DayOver C_NoName).all (fun c => (excL0 C_HouseError f_HouseError C_BadValue C_BadText C_BadValues C_BadDeed C_BadPath C_NoFile C_BadDeeds C_BadTree C_BadName C_BadNumber C_BadSeal C_OtherBody C_NoBlock C_BadRoot C_BadKey C_BadMap C_NoKey C_BadRows C_BadFile C_Beyond C_TooLong C_BadImage C_BadSteps C_BadChoices C_TooFull C_BadNames C_BadPast C_BadCounts C_NoRow C_NoDesk C_NotOwn C_TooMany C_Cheated C_Busy C_NotOpen C_BadRoots C_Full C_BadTellings C_Never C_BadEvents C_BadRule C_BadLine C_NotBusy C_BadAnswer C_BadDay C_DayOver C_NoName).all fun d => PySem.W.kitOne K (.ref c) (.ref d) == some (c == d)) = true
  khe : (excL C_HouseError f_HouseError C_BadValue C_BadText C_BadValues C_BadDeed C_BadPath C_NoFile C_BadDeeds C_BadTree C_BadName C_BadNumber C_BadSeal C_OtherBody C_NoBlock C_BadRoot C_BadKey C_BadMap C_NoKey C_BadRows C_BadFile C_Beyond C_TooLong C_BadImage C_BadSteps C_BadChoices C_TooFull C_BadNames C_BadPast C_BadCounts C_NoRow C_NoDesk C_NotOwn C_TooMany C_Cheated C_Busy C_NotOpen C_BadRoots C_Full C_BadTellings C_Never C_BadEvents C_BadRule C_BadLine C_NotBusy C_BadAnswer C_BadDay C_DayOver C_NoName).all (fun c => PySem.W.kitOne K (.ref c) (.ref C_HouseError) == some true) = true
  kval : (excL C_HouseError f_HouseError C_BadValue C_BadText C_BadValues C_BadDeed C_BadPath C_NoFile C_BadDeeds C_BadTree C_BadName C_BadNumber C_BadSeal C_OtherBody C_NoBlock C_BadRoot C_BadKey C_BadMap C_NoKey C_BadRows C_BadFile C_Beyond C_TooLong C_BadImage C_BadSteps C_BadChoices C_TooFull C_BadNames C_BadPast C_BadCounts C_NoRow C_NoDesk C_NotOwn C_TooMany C_Cheated C_Busy C_NotOpen C_BadRoots C_Full C_BadTellings C_Never C_BadEvents C_BadRule C_BadLine C_NotBusy C_BadAnswer C_BadDay C_DayOver C_NoName).all (fun c => PySem.W.kitOne K (.ref c) (.type "ValueError") == some true) = true
  knd : (excL0 C_HouseError f_HouseError C_BadValue C_BadText C_BadValues C_BadDeed C_BadPath C_NoFile C_BadDeeds C_BadTree C_BadName C_BadNumber C_BadSeal C_OtherBody C_NoBlock C_BadRoot C_BadKey C_BadMap C_NoKey C_BadRows C_BadFile C_Beyond C_TooLong C_BadImage C_BadSteps C_BadChoices C_TooFull C_BadNames C_BadPast C_BadCounts C_NoRow C_NoDesk C_NotOwn C_TooMany C_Cheated C_Busy C_NotOpen C_BadRoots C_Full C_BadTellings C_Never C_BadEvents C_BadRule C_BadLine C_NotBusy C_BadAnswer C_BadDay C_DayOver C_NoName).Nodup
  kho : C_HouseError ∉ excL0 C_HouseError f_HouseError C_BadValue C_BadText C_BadValues C_BadDeed C_BadPath C_NoFile C_BadDeeds C_BadTree C_BadName C_BadNumber C_BadSeal C_OtherBody C_NoBlock C_BadRoot C_BadKey C_BadMap C_NoKey C_BadRows C_BadFile C_Beyond C_TooLong C_BadImage C_BadSteps C_BadChoices C_TooFull C_BadNames C_BadPast C_BadCounts C_NoRow C_NoDesk C_NotOwn C_TooMany C_Cheated C_Busy C_NotOpen C_BadRoots C_Full C_BadTellings C_Never C_BadEvents C_BadRule C_BadLine C_NotBusy C_BadAnswer C_BadDay C_DayOver C_NoName
  d__law_pot : Def K mg "_law_pot" st__law_pot ["script", "place"]
  d__law_take : Def K mg "_law_take" st__law_take ["pot", "upto"]
  d__law_cells : Def K mg "_law_cells" st__law_cells ["script", "most"]
  d__law_kinds_too : Def K mg "_law_kinds_too" st__law_kinds_too ["error"]
  d__law_kinds_more : Def K mg "_law_kinds_more" st__law_kinds_more ["error"]
  d__law_of : Def K mg "_law_of" st__law_of ["pot", "some"]
  d__law_made_too : Def K mg "_law_made_too" st__law_made_too ["value"]
  d__law_made_more : Def K mg "_law_made_more" st__law_made_more ["value"]
  d__law_kinds : Def K mg "_law_kinds" st__law_kinds ["error"]
  d__law_odd : Def K mg "_law_odd" st__law_odd ["pot"]
  d__law_made : Def K mg "_law_made" st__law_made ["value"]
  d__law_right : Def K mg "_law_right" st__law_right ["pot"]
  d_law : Def K mg "law" st_law ["script"]
local macro_rules | `(tactic| walk_at "rd") => `(tactic| simp only [↓ite_bc, bc_t, bc_f, aFor_rng, lstA_lst, lstA_rol, aLcS_rng, eqA_ii, eqA_ss, neA_ii, neA_ss, updS_same, updS_updS, startA, List.map_cons, List.map_nil, List.cons_append, List.nil_append, List.length_cons, List.length_nil, Nat.zero_add, Nat.add_zero, Nat.reduceAdd, Nat.reduceSub, List.replicate_succ, List.replicate_zero, List.replicate,
  aVar_z, aVar_s, aC, aNil, aCons, aTup, aLstV, aLst, aOp, aUn, aTru, aTst, aCmp, aChn, aChnT, aAnd, aOr, aNot, aIf, aAndV, aOrV, aNotV, aCB, aCall, aNext, aSeq, aBrk, aCnt, aRet, aRetN, aIfS, aNev,
  agName, agNil, agCons, agTup, aAsg, aPar, aDrop, aCallK, aCallKn, aM, aM0, aAddS, aYes, one1, one2, wipeA, aRevT, aRevL, agSub_def, aSl, aPart, aNoPart, cutAns_rol, cutAns_lst, cutAns_tup, cutAns_str, aLstRg, aRg1, ex_some, tupleA_lst, tupleA_tup, wstA_lst,
  List.set_cons_zero, List.set_cons_succ, List.set, ex_bl, ex_int, ex_str, ex_tup, ex_eq, ex_cons, ex_pair, ex_one1, ex_one_int, and_tt, truA_bl, truOk_bl, truA_int, truOk_int, truA_lst, truOk_lst, truA_tup, truOk_tup, truA_refU, truOk_refU, Bool.not_true, Bool.not_false,
  addA_ii, addA_ss, addA_tt, addA_ll, intA_ii, int2A_ii, subA_ii, mulA_ii, modA_ii, fdivA_ii, powA_ii, negA_i, ltA_ii, leA_ii, gtA_ii, geA_ii, ltA_ss, leA_ss, gtA_ss, geA_ss, isA, isntA, nonA, isiA_non, isiA_bl, isiA_int, isiA_str, isiA_tup, isiA_lst, isiA_rol, lenA_str, lenA_tup, lenA_lst, lenA_rol, absA_i, toIntA_i, toIntA_b, isIntA, isiB, String.reduceBEq, List.contains_cons, List.contains_nil, Bool.or_true, Bool.true_or, Bool.or_false, Bool.false_or, Bool.and_true, Bool.true_and, Bool.and_false, Bool.false_and, Bool.not_eq_true, if_true, if_false, decide_true, decide_false, Bool.false_eq_true, eq_self, reduceCtorEq, true_and, false_and, and_false, badA, exists_false, aFld, aPut, agFld, aPutAug, aMeth, aMake, mulX_ii, mulX_si, mulX_li, strA_i, strA_s, intXA_i, intXA_b, isBA_bb, isntBA_bb, aPar3, ex_tri, inA_tup, inA_lst, ninA_tup, ninA_lst, shrA_ii, andA_ii, aFor_tup, aFor_lst, aFor_enum, aLcF_lst, aLcF_tup, aLcF_rng, aLcP_lst, aLcP_tup, aLcP_enum, aTryV, aRaise, aCallX, aMethX, aErr, aDct0, aStar, aCallKX, aIsE, aFor_enumT, aFor_zip, aLcP_enumT, aLcP_zip, mulT_ii, mulT_si, mulT_li, mulT_ti, aDGet, aDGet2, aDGet1, aDPut, aDIn, aDInT, aListS, aListZip, aDictZip, aDictP, aRepl, mIsAscii, mIsPrint, Option.isSome_none, Option.isSome_some, aLam, aMkE, aIsT, aErrT, aDispC, aMkE, aIsT, aErrT, aDispC])

def inB (d : AV) (a b : Int) : Bool := match d with
  | .int i => decide (a ≤ i) && decide (i ≤ b)
  | _ => false
def lenOk (d : AV) : Prop := match d with
  | .str z => z.length ≤ sizeLine
  | _ => True
theorem sg_lt {c k : Nat} : decide ([c] < [k]) = decide (c < k) := by
  refine decide_eq_decide.mpr ⟨fun h => ?_, fun h => List.Lex.rel h⟩
  cases h with
  | rel h => exact h
  | cons h => cases h
theorem sg_le1 {c : Nat} : (!decide ([c] < (" " : Str).cps.toList)) = decide (32 ≤ c) := by
  have e : (" " : Str).cps.toList = [32] := by decide +kernel
  rw [e]
  show (!decide ([c] < [32])) = _
  rw [sg_lt]
  by_cases h : c < 32
  · rw [decide_eq_true h, decide_eq_false (by omega)]; rfl
  · rw [decide_eq_false h, decide_eq_true (by omega)]; rfl
theorem sg_le2 {c : Nat} : (!decide (("~" : Str).cps.toList < [c])) = decide (c ≤ 126) := by
  have e : ("~" : Str).cps.toList = [126] := by decide +kernel
  rw [e]
  show (!decide ([126] < [c])) = _
  rw [sg_lt]
  by_cases h : 126 < c
  · rw [decide_eq_true h, decide_eq_false (by omega)]; rfl
  · rw [decide_eq_false h, decide_eq_true (by omega)]; rfl
theorem sg_eq {c : Nat} : decide ((⟨#[c]⟩ : Str) = ("\n" : Str)) = decide (c = 10) := by
  have e : ("\n" : Str) = ⟨#[10]⟩ := by decide +kernel
  rw [e]
  refine decide_eq_decide.mpr ⟨fun h => ?_, fun h => by rw [h]⟩
  have h : #[c] = #[10] := congrArg (fun z : Str => z.cps) h
  have h : [c] = [10] := congrArg (fun z : Array Nat => z.toList) h
  exact (List.cons.inj h).1
def single (d : AV) : Bool := match d with
  | .non => true
  | .int i => inB (.int i) (-1000000000000000000) 1000000000000000000
  | .str z => decide (z.length ≤ 100000) && z.cps.toList.all Vm.chB
  | _ => false
def pr (p : AV × Nat) : AV := .tup [p.1, .int p.2]
def wsum : List (AV × Nat) → Nat
  | [] => 0
  | p :: ps => Vm.cnt p.1 + wsum ps
theorem wsum_app : ∀ a b : List (AV × Nat), wsum (a ++ b) = wsum a + wsum b
  | [], b => (Nat.zero_add _).symm
  | p :: a, b => by rw [List.cons_append, wsum, wsum, wsum_app a b]; omega
theorem wsum_map (k : Nat) : ∀ xs : List AV, wsum (xs.map fun x => (x, k)) = Vm.cnts xs
  | [] => rfl
  | x :: xs => by rw [List.map_cons, wsum, wsum_map k xs]; rfl
theorem wsum_len : ∀ a : List (AV × Nat), a.length ≤ wsum a
  | [] => Nat.le_refl _
  | p :: a => by have := Vm.cnt_pos p.1; have := wsum_len a; rw [List.length_cons, wsum]; omega
theorem eq_nil_or_last {α : Type} (l : List α) : l = [] ∨ ∃ i x, l = i ++ [x] := by
  rcases h : l.reverse with _ | ⟨x, i⟩
  · exact .inl (List.reverse_eq_nil_iff.mp h)
  · exact .inr ⟨i.reverse, x, by rw [← List.reverse_reverse l, h, List.reverse_cons]⟩
theorem tyL {S : Store} {l : Addr} {xs : List AV} (h : S l = some (.lst xs)) : tyA "list" S (.ref l) := by
  show match S l with | some (.lst _) => "list" = "list" | some (.dK _) => "list" = "dict" | _ => False
  rw [h]
theorem seal_ne {xs : List AV} (h : xs.length ≠ 3) : Vm.sealB (.tup xs) = false := by
  rcases xs with _ | ⟨x, _ | ⟨y, _ | ⟨z, _ | ⟨w, xs⟩⟩⟩⟩ <;> first | rfl | exact absurd rfl h
theorem len3 {xs : List AV} (h : xs.length = 3) : ∃ x y z, xs = [x, y, z] := by
  rcases xs with _ | ⟨x, _ | ⟨y, _ | ⟨z, _ | ⟨w, xs⟩⟩⟩⟩
  · cases h
  · cases h
  · cases h
  · exact ⟨x, y, z, rfl⟩
  · simp only [List.length_cons] at h; omega
theorem lay_tup {x y z : AV} (h : Vm.lay (.tup [x, y, z]) = true) : Vm.lay x = true := by
  unfold Vm.lay at h ⊢
  rw [Bool.and_eq_true_iff, decide_eq_true_eq] at h ⊢
  have h1 : (PyData.canLay0 (toD x) && PyData.canLayAll0 (toDs [y, z])) = true := h.1
  have h2 : max (PyData.depth (toD x)) (PyData.depthAll (toDs [y, z])) + 1 ≤ 60 := h.2
  exact ⟨(Bool.and_eq_true_iff.mp h1).1, by omega⟩
theorem tame3 {x y z : AV} (h : Vm.tame (.tup [x, y, z]) = true) : Vm.tame x = true ∧ Vm.tame y = true := by
  have h : (Vm.tame x && (Vm.tame y && (Vm.tame z && true))) = true := h
  simp only [Bool.and_eq_true] at h
  exact ⟨h.1, h.2.1⟩
theorem cnt3 (x y z : AV) : Vm.cnt x + Vm.cnt y ≤ Vm.cnt (.tup [x, y, z]) := by
  show _ ≤ 1 + (Vm.cnt x + (Vm.cnt y + (Vm.cnt z + 0)))
  omega
theorem len_ok {d : AV} {n : Nat} (h : Vm.cnt d ≤ n) (hn : n ≤ 16777216) : lenOk d := by
  cases d <;> first | trivial | skip
  rename_i z
  have : Vm.cnt (.str z) = 1 + z.length := rfl
  exact le_sl (by omega)
theorem ix30 {x y z : AV} {S : Store} : ixA (.tup [x, y, z]) (.int 0) S = ⟨True, x⟩ := ans_tt rfl rfl
theorem ix31 {x y z : AV} {S : Store} : ixA (.tup [x, y, z]) (.int 1) S = ⟨True, y⟩ := ans_tt rfl rfl
theorem eq_w {d : AV} {S : Store} {w : Str} (h : Vm.tame d = true) (hs : Vm.lay d = true) (hw : SeqAt.shaped (.str w) = true := by decide +kernel) : eqA d (.str w) S = ⟨True, .bl (Vm.wordB w d)⟩ := by
  obtain ⟨a, b⟩ := eqA_s (S := S) (Vm.flat_tame d h) (Vm.lay_shaped hs) hw
  have : eqA d (.str w) S = ⟨(eqA d (.str w) S).ok, (eqA d (.str w) S).v⟩ := rfl
  rw [this, b, eq_true a]
  cases d <;> rfl
theorem cnts_app (a b : List AV) : Vm.cnts (a ++ b) = Vm.cnts a + Vm.cnts b := Vm.cnts_app a b
theorem cnts_rev : ∀ a : List AV, Vm.cnts a.reverse = Vm.cnts a
  | [] => rfl
  | p :: a => by rw [List.reverse_cons, cnts_app, cnts_rev a, Vm.cnts, Vm.cnts, Vm.cnts]; omega
theorem lay_mem {xs : List AV} (h : Vm.lay (.tup xs) = true) : ∀ x ∈ xs, Vm.lay x = true := by
  unfold Vm.lay at h ⊢
  rw [Bool.and_eq_true_iff, decide_eq_true_eq] at h
  have h1 : PyData.canLayAll0 (toDs xs) = true := h.1
  have h2 : PyData.depthAll (toDs xs) + 1 ≤ 60 := h.2
  clear h
  induction xs with
  | nil => intro x hx; cases hx
  | cons y ys ih =>
    intro x hx
    have h1 : (PyData.canLay0 (toD y) && PyData.canLayAll0 (toDs ys)) = true := h1
    have h2 : max (PyData.depth (toD y)) (PyData.depthAll (toDs ys)) + 1 ≤ 60 := h2
    rw [Bool.and_eq_true_iff] at h1
    rcases List.mem_cons.mp hx with rfl | hx
    · rw [Bool.and_eq_true_iff, decide_eq_true_eq]
      exact ⟨h1.1, by omega⟩
    · exact ih h1.2 (by omega) x hx
theorem tame_mem {xs : List AV} (h : Vm.tame (.tup xs) = true) : ∀ x ∈ xs, Vm.tame x = true := by
  have h : Vm.tames xs = true := h
  rw [Vm.tames_all, List.all_eq_true] at h
  exact h
theorem cnt_tup (xs : List AV) : Vm.cnt (.tup xs) = 1 + Vm.cnts xs := rfl
theorem sb_one (w : Bool) (xs : List AV) : Vm.sb w (.tup xs) = (bif Vm.sealB (.tup xs) then [.tup xs] else []) ++ (bif (w || !Vm.sealB (.tup xs)) then Vm.sbs w xs else []) := by
  rw [Vm.sb]
  cases Vm.sealB (.tup xs) <;> cases w <;> rfl
theorem sb_non {w : Bool} {d : AV} (h : isTup d = false) : Vm.sb w d = [] := by
  cases d <;> first | rfl | cases h
theorem isTup_ex {d : AV} (h : isTup d = true) : ∃ xs, d = .tup xs := by
  cases d <;> first | exact ⟨_, rfl⟩ | cases h
/-- what the walk over a stack of values keeps -/
structure StkOk (d : AV) (w : Bool) (found ls : List AV) (m : Nat) : Prop where
  sum : Vm.cnts ls = m
  le : m ≤ 10000000
  tame : ∀ x ∈ ls, Vm.tame x = true
  lay : ∀ x ∈ ls, Vm.lay x = true
  eq : found ++ Vm.sbs w ls.reverse = Vm.sb w d
  dc : Vm.cnt d ≤ 10000000
theorem StkOk.flen {d : AV} {w : Bool} {found ls : List AV} {m : Nat} (h : StkOk d w found ls m) : found.length ≤ 10000000 := by
  have h1 := Vm.sb_len w d
  have h2 := congrArg List.length h.eq
  have := h.dc
  rw [List.length_append] at h2
  omega
theorem StkOk.start {d : AV} {w : Bool} (h1 : Vm.tame d = true) (h2 : Vm.lay d = true) (h3 : Vm.cnt d ≤ 10000000) : StkOk d w [] [d] (Vm.cnt d) :=
  ⟨Nat.add_zero _, h3, fun x hx => by cases List.mem_singleton.mp hx; exact h1, fun x hx => by cases List.mem_singleton.mp hx; exact h2, by show Vm.sb w d ++ [] = _; rw [List.append_nil], h3⟩
theorem StkOk.last {d : AV} {w : Bool} {found init : List AV} {one : AV} {m : Nat} (h : StkOk d w found (init ++ [one]) m) : Vm.tame one = true ∧ Vm.lay one = true ∧ Vm.cnt one ≤ 10000000 := by
  refine ⟨h.tame one (by simp), h.lay one (by simp), ?_⟩
  have h1 := h.sum
  have h2 := h.le
  rw [cnts_app] at h1
  have e : Vm.cnts [one] = Vm.cnt one := Nat.add_zero _
  omega
theorem StkOk.pop {d : AV} {w : Bool} {found init : List AV} {one : AV} {m : Nat} (h : StkOk d w found (init ++ [one]) m) (e : Vm.sb w one = []) : ∃ m', m' < m ∧ StkOk d w found init m' := by
  have h1 := h.sum
  have h2 := h.le
  have h3 := h.eq
  have h4 := Vm.cnt_pos one
  rw [cnts_app] at h1
  have e1 : Vm.cnts [one] = Vm.cnt one := Nat.add_zero _
  rw [List.reverse_append, List.reverse_cons, List.reverse_nil, List.nil_append, List.cons_append, List.nil_append, Vm.sbs, e, List.nil_append] at h3
  exact ⟨_, by omega, rfl, by omega, fun x hx => h.tame x (List.mem_append_left _ hx), fun x hx => h.lay x (List.mem_append_left _ hx), h3, h.dc⟩
theorem StkOk.go {d : AV} {w : Bool} {found init xs : List AV} {m : Nat} (h : StkOk d w found (init ++ [.tup xs]) m) :
    ∃ m', m' < m ∧ StkOk d w (found ++ bif Vm.sealB (.tup xs) then [.tup xs] else []) (init ++ bif (w || !Vm.sealB (.tup xs)) then xs.reverse else []) m' := by
  have h1 := h.sum
  have h2 := h.le
  have h3 := h.eq
  rw [cnts_app] at h1
  have e1 : Vm.cnts [.tup xs] = Vm.cnt (.tup xs) := Nat.add_zero _
  rw [cnt_tup] at e1
  rw [List.reverse_append, List.reverse_cons, List.reverse_nil, List.nil_append, List.cons_append, List.nil_append, Vm.sbs, sb_one] at h3
  have tl := tame_mem (h.tame (.tup xs) (by simp))
  have ll := lay_mem (h.lay (.tup xs) (by simp))
  cases hb : (w || !Vm.sealB (.tup xs)) <;> rw [hb] at h3
  · refine ⟨Vm.cnts init, by omega, by simp only [cond_false, List.append_nil], by omega, fun x hx => ?_, fun x hx => ?_, ?_, h.dc⟩
    · simp only [cond_false, List.append_nil] at hx; exact h.tame x (List.mem_append_left _ hx)
    · simp only [cond_false, List.append_nil] at hx; exact h.lay x (List.mem_append_left _ hx)
    · rw [← h3]; simp only [cond_false, List.append_nil, List.append_assoc]
  · refine ⟨Vm.cnts init + Vm.cnts xs, by omega, by simp only [cond_true]; rw [cnts_app, cnts_rev], by omega, fun x hx => ?_, fun x hx => ?_, ?_, h.dc⟩
    · simp only [cond_true] at hx
      rcases List.mem_append.mp hx with hx | hx
      · exact h.tame x (List.mem_append_left _ hx)
      · exact tl x (List.mem_reverse.mp hx)
    · simp only [cond_true] at hx
      rcases List.mem_append.mp hx with hx | hx
      · exact h.lay x (List.mem_append_left _ hx)
      · exact ll x (List.mem_reverse.mp hx)
    · rw [← h3]; simp only [cond_true, List.reverse_append, List.reverse_reverse, Vm.sbs_app, List.append_assoc]
theorem two_same {S : Store} {l l1 : Addr} {a b : AO} (h : l ≠ l1) : updS (updS S l a) l1 b l = some a := by rw [updS_ne h, updS_same]
theorem two_upd {S : Store} {l l1 : Addr} {a b c : AO} (h : l ≠ l1) : updS (updS (updS S l a) l1 b) l c = updS (updS S l c) l1 b := by
  rw [updS_comm h, updS_updS, ← updS_comm h]
theorem neA_of {x y : AV} {S : Store} {b : Bool} (h : eqA x y S = ⟨True, .bl b⟩) : neA x y S = ⟨True, .bl (!b)⟩ := by
  have h1 : (eqA x y S).ok := by rw [h]; trivial
  have h2 : (eqA x y S).v = .bl b := by rw [h]
  have key : (neA x y S).ok ∧ (neA x y S).v = .bl (!b) := by
    cases x <;> cases y
    all_goals first
      | exact ⟨h1, by have h2 := AV.bl.inj h2; exact congrArg AV.bl (congrArg (fun c => !c) h2)⟩
      | exact ⟨trivial, by have h2 := AV.bl.inj h2; exact congrArg AV.bl (congrArg (fun c => !c) h2)⟩
  have : neA x y S = ⟨(neA x y S).ok, (neA x y S).v⟩ := rfl
  rw [this, key.2, eq_true key.1]
theorem ne_w {d : AV} {S : Store} {w : Str} (h : Vm.tame d = true) (hs : Vm.lay d = true) (hw : SeqAt.shaped (.str w) = true := by decide +kernel) : neA d (.str w) S = ⟨True, .bl (!Vm.wordB w d)⟩ := neA_of (eq_w h hs hw)
theorem flatAs_tame {xs : List AV} (h : ∀ x ∈ xs, Vm.tame x = true) : flatAs xs = true := by
  rw [Vm.flatAs_all, List.all_eq_true]
  exact fun x hx => Vm.flat_tame x (h x hx)
theorem lays_all : ∀ {xs : List AV}, (∀ x ∈ xs, Vm.lay x = true) → PyData.canLayAll0 (toDs xs) = true ∧ PyData.depthAll (toDs xs) ≤ 60
  | [], _ => ⟨rfl, Nat.zero_le _⟩
  | x :: xs, h => by
    have a := h x (List.mem_cons_self ..)
    unfold Vm.lay at a
    rw [Bool.and_eq_true_iff, decide_eq_true_eq] at a
    obtain ⟨b, c⟩ := lays_all fun y hy => h y (List.mem_cons_of_mem _ hy)
    refine ⟨?_, ?_⟩
    · show (PyData.canLay0 (toD x) && PyData.canLayAll0 (toDs xs)) = true
      rw [a.1, b]; rfl
    · show max (PyData.depth (toD x)) (PyData.depthAll (toDs xs)) ≤ 60
      omega
theorem ne_nil {S : Store} {l : Addr} {xs : List AV} (h : S l = some (.lst xs)) (ht : ∀ x ∈ xs, Vm.tame x = true) (hy : ∀ x ∈ xs, Vm.lay x = true) : neA (.ref l) (.lst []) S = ⟨True, .bl (!xs.isEmpty)⟩ := by
  have e : datA S (.ref l) = .list (toDs xs) := by unfold datA; rw [derefA_ref h]; rfl
  have e2 : datA S (.lst []) = .list [] := rfl
  obtain ⟨a, b⟩ := lays_all hy
  have ok : okD S (.ref l) := by
    refine ⟨by rw [derefA_ref h]; exact flatAs_tame ht, ?_⟩
    rw [e]
    unfold SeqAt.shaped
    rw [Bool.and_eq_true_iff, decide_eq_true_eq]
    refine ⟨a, ?_⟩
    show PyData.depthAll (toDs xs) + 1 ≤ 64
    omega
  have ok2 : okD S (.lst []) := ⟨rfl, by rw [e2]; decide +kernel⟩
  show (⟨okD S (.ref l) ∧ okD S (.lst []), .bl (!PyData.eqv (datA S (.ref l)) (datA S (.lst [])))⟩ : Ans) = _
  refine ans_tt ⟨ok, ok2⟩ ?_
  rw [e, e2]
  cases xs with
  | nil => rw [toDs]; unfold PyData.eqv; rfl
  | cons x xs => rw [toDs]; unfold PyData.eqv; rfl
theorem rt_two {S : Store} {l l1 : Addr} {a b : List AV} {Q : AK} (ne : l ≠ l1) (hl : S l = none) (hn1 : S l1 = none) (q : Q (.lst a) S) : RtW Q (.ref l) (updS (updS S l (.lst a)) l1 (.lst b)) :=
  rt_frz (two_same ne) (.new (.new .refl hl (by rw [hl]; simp) (by simp)) hn1 (by rw [updS_ne (Ne.symm ne), hn1]; simp) (by simp)) hl q
theorem rt_two' {S : Store} {l l1 : Addr} {a b : List AV} {d : AV} {Q : AK} (ne : l ≠ l1) (hl : S l = none) (hn1 : S l1 = none) (q : Q d S) : RtW Q d (updS (updS S l (.lst a)) l1 (.lst b)) :=
  rt_sub (.new (.new .refl hl (by rw [hl]; simp) (by simp)) hn1 (by rw [updS_ne (Ne.symm ne), hn1]; simp) (by simp)) q
def piA (p : AV × Bool) : AV := match p.2 with
  | true => .tup [.str ")", .bl true]
  | false => .tup [p.1, .bl false]
def piL (p : AV × Bool) : AV := match p.2 with
  | true => .lst [.str ")"]
  | false => p.1
def goodA (y : AV) : Prop := Vm.isVal y 30 = true ∧ Vm.cnt y ≤ 400000
theorem cnts_leM {m : Nat} : ∀ xs : List AV, (∀ s ∈ xs, Vm.cnt s ≤ m) → Vm.cnts xs ≤ xs.length * m
  | [], _ => Nat.zero_le _
  | x :: xs, h => by
    have a := h x (List.mem_cons_self ..)
    have b := cnts_leM xs fun s hs => h s (List.mem_cons_of_mem _ hs)
    rw [Vm.cnts, List.length_cons, Nat.succ_mul]
    omega

/-- the exceptions at as, of these classes, keep v -/
def ExcAll (v : AV) : List Addr → List Addr → Store → Prop
  | [], [], _ => True
  | C :: Cs, a :: as, S => S a = some (.exc C v) ∧ ExcAll v Cs as S
  | _, _, _ => False
structure Wl (S0 : Store) (l : Addr) (xs : List AV) (F : List (Addr × AO)) (S : Store) : Prop where
  sub : Sub S0 S
  lst : S l = some (.lst xs)
  n0 : S0 l = none
  all : ∀ q ∈ F, S q.1 = some q.2
  nd : ∀ q ∈ F, q.1 ≠ l
structure Wk (S0 : Store) (F : List (Addr × AO)) (S : Store) : Prop where
  sub : Sub S0 S
  all : ∀ q ∈ F, S q.1 = some q.2
theorem Wk.new {S0 S : Store} {F : List (Addr × AO)} {a C : Addr} {v : AV} (h : Wk S0 F S) (n : S a = none) : Wk S0 ((a, .exc C v) :: F) (updS S a (.exc C v)) :=
  ⟨h.sub.trans (Sub.new .refl n (by rw [n]; simp) (by simp)), fun q hq => by
    rcases List.mem_cons.mp hq with rfl | hq
    · exact updS_same
    · exact (updS_ne (neS (h.all q hq) n)).trans (h.all q hq)⟩
theorem Wl.start {S0 S : Store} {F : List (Addr × AO)} {l : Addr} {xs : List AV} (h : Wk S0 F S) (n : S l = none) : Wl S0 l xs F (updS S l (.lst xs)) :=
  ⟨h.sub.trans (Sub.new .refl n (by rw [n]; simp) (by simp)), updS_same, h.sub.non n, fun q hq => (updS_ne (neS (h.all q hq) n)).trans (h.all q hq), fun q hq => neS (h.all q hq) n⟩
theorem Wl.new {S0 S : Store} {F : List (Addr × AO)} {a C l : Addr} {v : AV} {xs : List AV} (h : Wl S0 l xs F S) (n : S a = none) : Wl S0 l xs ((a, .exc C v) :: F) (updS S a (.exc C v)) :=
  ⟨h.sub.trans (Sub.new .refl n (by rw [n]; simp) (by simp)), (updS_ne (neS h.lst n)).trans h.lst, h.n0, fun q hq => by
    rcases List.mem_cons.mp hq with rfl | hq
    · exact updS_same
    · exact (updS_ne (neS (h.all q hq) n)).trans (h.all q hq), fun q hq => by
    rcases List.mem_cons.mp hq with rfl | hq
    · exact Ne.symm (neS h.lst n)
    · exact h.nd q hq⟩
theorem Wl.put {S0 S : Store} {F : List (Addr × AO)} {l : Addr} {xs ys : List AV} (h : Wl S0 l xs F S) : Wl S0 l ys F (updS S l (.lst ys)) :=
  ⟨⟨fun a o e => by
    have ne : a ≠ l := by rintro rfl; rw [h.n0] at e; cases e
    rw [updS_ne ne]; exact h.sub.le a o e, fun a e => by
    by_cases z : a = l
    · subst z; rw [updS_same] at e; cases e
    · rw [updS_ne z] at e; exact h.sub.hid a e⟩, updS_same, h.n0, fun q hq => (updS_ne (h.nd q hq)).trans (h.all q hq), h.nd⟩
theorem Wl.ext {S0 S : Store} {F : List (Addr × AO)} {l : Addr} {xs ys : List AV} {R : AK} (h : Wl S0 l xs F S) (hl : xs.length + ys.length < 100) (k : ∀ S1, Wl S0 l (xs ++ ys) F S1 → R .non S1) : mExtend (.ref l) [.lst ys] S R :=
  ⟨l, _, _, _, rfl, rfl, h.lst, .inr rfl, Nat.le_trans (Nat.le_of_lt hl) (le_sl (by decide)), k _ h.put⟩
/-- the list is what is returned -/
theorem Wl.fin {S0 S : Store} {F : List (Addr × AO)} {l : Addr} {xs : List AV} {Q : AK} (h : Wl S0 l xs F S) (q : ∀ S1, Wk S0 F S1 → Q (.lst xs) S1) : RtW Q (.ref l) S := by
  have sb : Sub (dropS S l) S := ⟨fun a o e => by
    have ne : a ≠ l := by rintro rfl; rw [dropS_same] at e; cases e
    rw [dropS_ne ne] at e; exact e, fun a e => by
    have ne : a ≠ l := by rintro rfl; rw [h.lst] at e; cases e
    rw [dropS_ne ne]; exact e⟩
  refine rt_frz h.lst sb dropS_same (q _ ⟨⟨fun a o e => ?_, fun a e => ?_⟩, fun q hq => (dropS_ne (h.nd q hq)).trans (h.all q hq)⟩)
  · have ne : a ≠ l := by rintro rfl; rw [h.n0] at e; cases e
    rw [dropS_ne ne]; exact h.sub.le a o e
  · have ne : a ≠ l := by rintro rfl; rw [dropS_same] at e; cases e
    rw [dropS_ne ne] at e; exact h.sub.hid a e
theorem addA_rl {S : Store} {l : Addr} {xs ys : List AV} (h : S l = some (.lst xs)) : addA (.ref l) (.lst ys) S = ⟨xs.length + ys.length ≤ sizeLine, .lst (xs ++ ys)⟩ := by
  show catA (wstA S (.ref l)) (wstA S (.lst ys)) = _
  rw [show wstA S (.ref l) = some xs by simp [wstA, h]]
  rfl
theorem drop_sub {S : Store} {l : Addr} {xs : List AV} (h : S l = some (.lst xs)) : Sub (dropS S l) S := ⟨fun a o e => by
    have ne : a ≠ l := by rintro rfl; rw [dropS_same] at e; cases e
    rw [dropS_ne ne] at e; exact e, fun a e => by
    have ne : a ≠ l := by rintro rfl; rw [h] at e; cases e
    rw [dropS_ne ne]; exact e⟩
theorem ExcAll.len {v : AV} : ∀ {Cs as : List Addr} {S : Store}, ExcAll v Cs as S → as.length = Cs.length
  | [], [], _, _ => rfl
  | _ :: _, _ :: _, _, h => congrArg (· + 1) (ExcAll.len h.2)
theorem ExcAll.up {v : AV} : ∀ {Cs as : List Addr} {S S' : Store}, ExcAll v Cs as S → Sub S S' → ExcAll v Cs as S'
  | [], [], _, _, _, _ => trivial
  | _ :: _, _ :: _, _, _, h, s => ⟨s.le _ _ h.1, ExcAll.up h.2 s⟩
theorem ExcAll.app {v : AV} : ∀ {Cs as Ds bs : List Addr} {S : Store}, ExcAll v Cs as S → ExcAll v Ds bs S → ExcAll v (Cs ++ Ds) (as ++ bs) S
  | [], [], _, _, _, _, h => h
  | _ :: _, _ :: _, _, _, _, h, g => ⟨h.1, ExcAll.app h.2 g⟩
section
variable {P : Program} {w : World} {K : PySem.W.Frag} {mg : Str → Option Value} {base : Heap} {C_HouseError : Addr} {f_HouseError : Addr} {C_BadValue : Addr} {C_BadText : Addr} {C_BadValues : Addr} {C_BadDeed : Addr} {C_BadPath : Addr} {C_NoFile : Addr} {C_BadDeeds : Addr} {C_BadTree : Addr} {C_BadName : Addr} {C_BadNumber : Addr} {C_BadSeal : Addr} {C_OtherBody : Addr} {C_NoBlock : Addr} {C_BadRoot : Addr} {C_BadKey : Addr} {C_BadMap : Addr} {C_NoKey : Addr} {C_BadRows : Addr} {C_BadFile : Addr} {C_Beyond : Addr} {C_TooLong : Addr} {C_BadImage : Addr} {C_BadSteps : Addr} {C_BadChoices : Addr} {C_TooFull : Addr} {C_BadNames : Addr} {C_BadPast : Addr} {C_BadCounts : Addr} {C_NoRow : Addr} {C_NoDesk : Addr} {C_NotOwn : Addr} {C_TooMany : Addr} {C_Cheated : Addr} {C_Busy : Addr} {C_NotOpen : Addr} {C_BadRoots : Addr} {C_Full : Addr} {C_BadTellings : Addr} {C_Never : Addr} {C_BadEvents : Addr} {C_BadRule : Addr} {C_BadLine : Addr} {C_NotBusy : Addr} {C_BadAnswer : Addr} {C_BadDay : Addr} {C_DayOver : Addr} {C_NoName : Addr}
def sp__law_pot : ASp := fun ds S Q => ∃ (ns : List Int) (k : Nat), ds = [.rol (ns.map .int), .int k] ∧ k < 1000 ∧ ∀ l t, S l = none → okP 0 t → Q (.ref l) (updS S l (potO t))
set_option maxHeartbeats 4000000 in
theorem fn__law_pot (T : Txt P w K mg C_HouseError f_HouseError C_BadValue C_BadText C_BadValues C_BadDeed C_BadPath C_NoFile C_BadDeeds C_BadTree C_BadName C_BadNumber C_BadSeal C_OtherBody C_NoBlock C_BadRoot C_BadKey C_BadMap C_NoKey C_BadRows C_BadFile C_Beyond C_TooLong C_BadImage C_BadSteps C_BadChoices C_TooFull C_BadNames C_BadPast C_BadCounts C_NoRow C_NoDesk C_NotOwn C_TooMany C_Cheated C_Busy C_NotOpen C_BadRoots C_Full C_BadTellings C_Never C_BadEvents C_BadRule C_BadLine C_NotBusy C_BadAnswer C_BadDay C_DayOver C_NoName)  : FnX P w K mg base 1 "_law_pot" st__law_pot ["script", "place"] sp__law_pot := by
  refine FnX.of T.d__law_pot fun f fd F => F.ok4 sc__law_pot (fun ds S Q h => by unfold sp__law_pot at h; first | (obtain ⟨_, rfl, _⟩ := h; rfl) | (obtain ⟨_, _, rfl, _⟩ := h; rfl) | (obtain ⟨_, _, _, rfl, _⟩ := h; rfl) | (obtain ⟨_, _, _, _, rfl, _⟩ := h; rfl) | (obtain ⟨_, _, _, _, _, rfl, _⟩ := h; rfl) | (obtain ⟨_, _, _, _, _, _, rfl, _⟩ := h; rfl) | (obtain ⟨_, _, _, _, _, _, _, rfl, _⟩ := h; rfl) | (repeat (first | (rcases h with ⟨rfl, _⟩; rfl) | (obtain ⟨_, h⟩ := h)))) fun cdv A gd out s H E hr => ?_
  refine ⟨_, (s_cons (s_set 2 sc__law_pot.nd (e_if (t_cmp o_lt (e_var 1) (e_cb c_len T.n_len (by decide +kernel) (a_cons (e_var 0) a_nil))) (e_ix o_ix (e_var 0) (e_var 1)) (e_op o_add (e_op o_add (e_op o_mod (e_cb (c_sum rfl) T.n_sum (by decide +kernel) (a_cons (e_sl (e_var 0) o_none (o_some e_int)) a_nil)) e_int) (e_op o_mulT e_int (e_var 1))) e_int)))
    (s_cons (s_set 3 sc__law_pot.nd (e_op o_mulT (e_op o_mod (e_ct c_int T.n_int (by decide +kernel) (a_cons (e_cb c_abs T.n_abs (by decide +kernel) (a_cons (e_var 2) a_nil)) a_nil)) (e_op o_pow (e_op o_pow e_int e_int) e_int)) (e_ct c_int T.n_int (by decide +kernel) (a_cons (e_cmp o_ge (e_cb c_abs T.n_abs (by decide +kernel) (a_cons (e_var 2) a_nil)) (e_op o_pow e_int e_int)) a_nil))))
    (s_cons (s_set 4 sc__law_pot.nd (e_op o_mod (e_ct c_int T.n_int (by decide +kernel) (a_cons (e_var 2) a_nil)) e_int))
    (s_one (s_ret (e_lst (a_cons (e_var 3) (a_cons (e_op o_mod (e_ct c_int T.n_int (by decide +kernel) (a_cons (e_op o_add (e_op o_add (e_op o_mulT (e_var 4) e_int) (e_op o_mulT (e_op o_mulT e_int (e_var 1)) (e_var 1))) e_int) a_nil)) e_int) (a_cons e_int a_nil))))))))), ?_⟩
  rintro _ S Q ⟨ns, k, rfl, hk, q⟩
  have big : CPowB 10 60 ∧ CPowB (10 ^ Int.toNat 60) 5 ∧ CPowB 10 18 := ⟨powS (by omega) (by omega) (by omega) (by omega), powS (by decide +kernel) (by decide +kernel) (by omega) (by omega), powS (by omega) (by omega) (by omega) (by omega)⟩
  have bigp : (0 : Int) < (10 ^ Int.toNat 60) ^ Int.toNat 5 := by decide +kernel
  have fin : ∀ (i : Int) (own : Int), 0 ≤ own → ∀ l, S l = none → RtW Q (.ref l) (updS S l (.lst [.int own, .int (i % 2305843009213693921), .int 0])) := fun i own ho l hl =>
    rt_same (q l (own, i % 2305843009213693921, 0) hl ⟨ho, Int.emod_nonneg _ (by omega), by have := Int.emod_lt_of_pos i (b := 2305843009213693921) (by omega); show i % 2305843009213693921 < 2305843009213693951; omega, Int.le_refl _, Int.le_refl _⟩)
  have owns : ∀ (x : Int) (g : Bool), 0 ≤ x % ((10 ^ Int.toNat 60) ^ Int.toNat 5) * (if g = true then 1 else 0) := fun x g => Int.mul_nonneg (Int.emod_nonneg _ (by omega)) (by cases g <;> decide)
  have bR : ∀ (x : Int) (g : Bool), CMulB x (if g = true then 1 else 0) := fun x g => mulR (by cases g <;> decide) (by cases g <;> decide)
  walk_at "rd"
  rw [List.length_map]
  by_cases hkn : k < ns.length
  · obtain ⟨y, hy, he⟩ := ixA_rol (xs := ns.map .int) (i := (k : Int)) (S := S) (by omega) (by rw [List.length_map]; omega)
    obtain ⟨i, _, rfl⟩ := List.mem_map.mp hy
    rw [decide_eq_true (by omega)]
    simp only [↓ite_bc, bc_t, bc_f, aFor_rng, lstA_lst, lstA_rol, aLcS_rng, eqA_ii, eqA_ss, neA_ii, neA_ss, updS_same, updS_updS, startA, List.map_cons, List.map_nil, List.cons_append, List.nil_append, List.length_cons, List.length_nil, Nat.zero_add, Nat.add_zero, Nat.reduceAdd, Nat.reduceSub, List.replicate_succ, List.replicate_zero, List.replicate,  aVar_z, aVar_s, aC, aNil, aCons, aTup, aLstV, aLst, aOp, aUn, aTru, aTst, aCmp, aChn, aChnT, aAnd, aOr, aNot, aIf, aAndV, aOrV, aNotV, aCB, aCall, aNext, aSeq, aBrk, aCnt, aRet, aRetN, aIfS, aNev,  agName, agNil, agCons, agTup, aAsg, aPar, aDrop, aCallK, aCallKn, aM, aM0, aAddS, aYes, one1, one2, wipeA, aRevT, aRevL, agSub_def, aSl, aPart, aNoPart, cutAns_rol, cutAns_lst, cutAns_tup, cutAns_str, aLstRg, aRg1, ex_some, tupleA_lst, tupleA_tup, wstA_lst,  List.set_cons_zero, List.set_cons_succ, List.set, ex_bl, ex_int, ex_str, ex_tup, ex_eq, ex_cons, ex_pair, ex_one1, ex_one_int, and_tt, truA_bl, truOk_bl, truA_int, truOk_int, truA_lst, truOk_lst, truA_tup, truOk_tup, truA_refU, truOk_refU, Bool.not_true, Bool.not_false,  addA_ii, addA_ss, addA_tt, addA_ll, intA_ii, int2A_ii, subA_ii, mulA_ii, modA_ii, fdivA_ii, powA_ii, negA_i, ltA_ii, leA_ii, gtA_ii, geA_ii, ltA_ss, leA_ss, gtA_ss, geA_ss, isA, isntA, nonA, isiA_non, isiA_bl, isiA_int, isiA_str, isiA_tup, isiA_lst, isiA_rol, lenA_str, lenA_tup, lenA_lst, lenA_rol, absA_i, toIntA_i, toIntA_b, isIntA, isiB, String.reduceBEq, List.contains_cons, List.contains_nil, Bool.or_true, Bool.true_or, Bool.or_false, Bool.false_or, Bool.and_true, Bool.true_and, Bool.and_false, Bool.false_and, Bool.not_eq_true, if_true, if_false, decide_true, decide_false, Bool.false_eq_true, eq_self, reduceCtorEq, true_and, false_and, and_false, badA, exists_false, aFld, aPut, agFld, aPutAug, aMeth, aMake, mulX_ii, mulX_si, mulX_li, strA_i, strA_s, intXA_i, intXA_b, isBA_bb, isntBA_bb, aPar3, ex_tri, inA_tup, inA_lst, ninA_tup, ninA_lst, shrA_ii, andA_ii, aFor_tup, aFor_lst, aFor_enum, aLcF_lst, aLcF_tup, aLcF_rng, aLcP_lst, aLcP_tup, aLcP_enum, aTryV, aRaise, aCallX, aMethX, aErr, aDct0, aStar, aCallKX, aIsE, aFor_enumT, aFor_zip, aLcP_enumT, aLcP_zip, mulT_ii, mulT_si, mulT_li, mulT_ti, aDGet, aDGet2, aDGet1, aDPut, aDIn, aDInT, aListS, aListZip, aDictZip, aDictP, aRepl, mIsAscii, mIsPrint, Option.isSome_none, Option.isSome_some, aLam, aMkE, aIsT, aErrT, aDispC, aMkE, aIsT, aErrT, aDispC, he]
    refine ⟨big.1, big.2.1, bigp, big.2.2, bR _ _, by omega, mulR (by omega) (by omega), mulR (by omega) (by omega), mulR (by omega) (by omega), by omega, le_sl (by omega), ?_⟩
    exact fin _ _ (owns _ _)
  · rw [decide_eq_false (by omega)]
    obtain ⟨s, hs⟩ := sum_cut ns none (some 1)
    simp only [↓ite_bc, bc_t, bc_f, aFor_rng, lstA_lst, lstA_rol, aLcS_rng, eqA_ii, eqA_ss, neA_ii, neA_ss, updS_same, updS_updS, startA, List.map_cons, List.map_nil, List.cons_append, List.nil_append, List.length_cons, List.length_nil, Nat.zero_add, Nat.add_zero, Nat.reduceAdd, Nat.reduceSub, List.replicate_succ, List.replicate_zero, List.replicate,  aVar_z, aVar_s, aC, aNil, aCons, aTup, aLstV, aLst, aOp, aUn, aTru, aTst, aCmp, aChn, aChnT, aAnd, aOr, aNot, aIf, aAndV, aOrV, aNotV, aCB, aCall, aNext, aSeq, aBrk, aCnt, aRet, aRetN, aIfS, aNev,  agName, agNil, agCons, agTup, aAsg, aPar, aDrop, aCallK, aCallKn, aM, aM0, aAddS, aYes, one1, one2, wipeA, aRevT, aRevL, agSub_def, aSl, aPart, aNoPart, cutAns_rol, cutAns_lst, cutAns_tup, cutAns_str, aLstRg, aRg1, ex_some, tupleA_lst, tupleA_tup, wstA_lst,  List.set_cons_zero, List.set_cons_succ, List.set, ex_bl, ex_int, ex_str, ex_tup, ex_eq, ex_cons, ex_pair, ex_one1, ex_one_int, and_tt, truA_bl, truOk_bl, truA_int, truOk_int, truA_lst, truOk_lst, truA_tup, truOk_tup, truA_refU, truOk_refU, Bool.not_true, Bool.not_false,  addA_ii, addA_ss, addA_tt, addA_ll, intA_ii, int2A_ii, subA_ii, mulA_ii, modA_ii, fdivA_ii, powA_ii, negA_i, ltA_ii, leA_ii, gtA_ii, geA_ii, ltA_ss, leA_ss, gtA_ss, geA_ss, isA, isntA, nonA, isiA_non, isiA_bl, isiA_int, isiA_str, isiA_tup, isiA_lst, isiA_rol, lenA_str, lenA_tup, lenA_lst, lenA_rol, absA_i, toIntA_i, toIntA_b, isIntA, isiB, String.reduceBEq, List.contains_cons, List.contains_nil, Bool.or_true, Bool.true_or, Bool.or_false, Bool.false_or, Bool.and_true, Bool.true_and, Bool.and_false, Bool.false_and, Bool.not_eq_true, if_true, if_false, decide_true, decide_false, Bool.false_eq_true, eq_self, reduceCtorEq, true_and, false_and, and_false, badA, exists_false, aFld, aPut, agFld, aPutAug, aMeth, aMake, mulX_ii, mulX_si, mulX_li, strA_i, strA_s, intXA_i, intXA_b, isBA_bb, isntBA_bb, aPar3, ex_tri, inA_tup, inA_lst, ninA_tup, ninA_lst, shrA_ii, andA_ii, aFor_tup, aFor_lst, aFor_enum, aLcF_lst, aLcF_tup, aLcF_rng, aLcP_lst, aLcP_tup, aLcP_enum, aTryV, aRaise, aCallX, aMethX, aErr, aDct0, aStar, aCallKX, aIsE, aFor_enumT, aFor_zip, aLcP_enumT, aLcP_zip, mulT_ii, mulT_si, mulT_li, mulT_ti, aDGet, aDGet2, aDGet1, aDPut, aDIn, aDInT, aListS, aListZip, aDictZip, aDictP, aRepl, mIsAscii, mIsPrint, Option.isSome_none, Option.isSome_some, aLam, aMkE, aIsT, aErrT, aDispC, aMkE, aIsT, aErrT, aDispC, hs]
    refine ⟨by omega, mulR (by omega) (by omega), big.1, big.2.1, bigp, big.2.2, bR _ _, by omega, mulR (by omega) (by omega), mulR (by omega) (by omega), mulR (by omega) (by omega), by omega, le_sl (by omega), ?_⟩
    exact fin _ _ (owns _ _)
abbrev sp__law_take : ASp := spTake
set_option maxHeartbeats 4000000 in
theorem fn__law_take (T : Txt P w K mg C_HouseError f_HouseError C_BadValue C_BadText C_BadValues C_BadDeed C_BadPath C_NoFile C_BadDeeds C_BadTree C_BadName C_BadNumber C_BadSeal C_OtherBody C_NoBlock C_BadRoot C_BadKey C_BadMap C_NoKey C_BadRows C_BadFile C_Beyond C_TooLong C_BadImage C_BadSteps C_BadChoices C_TooFull C_BadNames C_BadPast C_BadCounts C_NoRow C_NoDesk C_NotOwn C_TooMany C_Cheated C_Busy C_NotOpen C_BadRoots C_Full C_BadTellings C_Never C_BadEvents C_BadRule C_BadLine C_NotBusy C_BadAnswer C_BadDay C_DayOver C_NoName)  : FnX P w K mg base 1 "_law_take" st__law_take ["pot", "upto"] sp__law_take := by
  refine FnX.of T.d__law_take fun f fd F => F.ok4 sc__law_take (fun ds S Q h => by obtain ⟨_, _, _, _, rfl, _⟩ := h; rfl) fun cdv A gd out s H E hr => ?_
  refine ⟨_, (s_cons (s_if (t_cmp o_gt (e_ix o_ix (e_var 0) e_int) e_int) (s_cons (s_set 2 sc__law_take.nd (e_op o_mod (e_ct c_int T.n_int (by decide +kernel) (a_cons (e_ix o_ix (e_var 0) e_int) a_nil)) (e_var 1)))
    (s_cons (s_asg (e_op o_fdiv (e_ix o_ix (e_var 0) e_int) (e_var 1)) (g_sub (e_var 0) e_int))
    (s_one (s_ret (e_var 2))))) s_nil)
    (s_cons (s_asg (e_op o_add (e_ix o_ix (e_var 0) e_int) e_int) (g_sub (e_var 0) e_int))
    (s_cons (s_set 3 sc__law_take.nd (e_ix o_ix (e_lstV (a_cons e_int (a_cons e_int (a_cons e_int (a_cons e_int (a_cons e_int a_nil)))))) (e_op o_mod (e_ct c_int T.n_int (by decide +kernel) (a_cons (e_ix o_ix (e_var 0) e_int) a_nil)) e_int)))
    (s_cons (s_set 4 sc__law_take.nd (e_op o_mod (e_ct c_int T.n_int (by decide +kernel) (a_cons (e_op o_pow (e_ct c_int T.n_int (by decide +kernel) (a_cons (e_op o_add (e_op o_add (e_ix o_ix (e_var 0) e_int) (e_op o_mulT (e_op o_mulT e_int (e_ix o_ix (e_var 0) e_int)) (e_ix o_ix (e_var 0) e_int))) e_int) a_nil)) e_int) a_nil)) (e_var 3)))
    (s_cons (s_set 4 sc__law_take.nd (e_op o_mod (e_ct c_int T.n_int (by decide +kernel) (a_cons (e_op o_mulT (e_var 4) (e_op o_add (e_op o_mod (e_ct c_int T.n_int (by decide +kernel) (a_cons (e_var 4) a_nil)) e_int) (e_op o_mulT e_int (e_ix o_ix (e_var 0) e_int)))) a_nil)) e_int))
    (s_one (s_ret (e_op o_mod (e_ct c_int T.n_int (by decide +kernel) (a_cons (e_op o_fdiv (e_var 4) e_int) a_nil)) (e_var 1))))))))), ?_⟩
  rintro _ S Q ⟨p, ⟨a, b, c⟩, n, N, rfl, hn0, hn1, hp, ok, hN, q⟩
  obtain ⟨h1, h2, h3, h4, h5⟩ := ok
  have hp : S p = some (.lst [.int a, .int b, .int c]) := hp
  simp only [↓ite_bc, bc_t, bc_f, aFor_rng, lstA_lst, lstA_rol, aLcS_rng, eqA_ii, eqA_ss, neA_ii, neA_ss, updS_same, updS_updS, startA, List.map_cons, List.map_nil, List.cons_append, List.nil_append, List.length_cons, List.length_nil, Nat.zero_add, Nat.add_zero, Nat.reduceAdd, Nat.reduceSub, List.replicate_succ, List.replicate_zero, List.replicate,  aVar_z, aVar_s, aC, aNil, aCons, aTup, aLstV, aLst, aOp, aUn, aTru, aTst, aCmp, aChn, aChnT, aAnd, aOr, aNot, aIf, aAndV, aOrV, aNotV, aCB, aCall, aNext, aSeq, aBrk, aCnt, aRet, aRetN, aIfS, aNev,  agName, agNil, agCons, agTup, aAsg, aPar, aDrop, aCallK, aCallKn, aM, aM0, aAddS, aYes, one1, one2, wipeA, aRevT, aRevL, agSub_def, aSl, aPart, aNoPart, cutAns_rol, cutAns_lst, cutAns_tup, cutAns_str, aLstRg, aRg1, ex_some, tupleA_lst, tupleA_tup, wstA_lst,  List.set_cons_zero, List.set_cons_succ, List.set, ex_bl, ex_int, ex_str, ex_tup, ex_eq, ex_cons, ex_pair, ex_one1, ex_one_int, and_tt, truA_bl, truOk_bl, truA_int, truOk_int, truA_lst, truOk_lst, truA_tup, truOk_tup, truA_refU, truOk_refU, Bool.not_true, Bool.not_false,  addA_ii, addA_ss, addA_tt, addA_ll, intA_ii, int2A_ii, subA_ii, mulA_ii, modA_ii, fdivA_ii, powA_ii, negA_i, ltA_ii, leA_ii, gtA_ii, geA_ii, ltA_ss, leA_ss, gtA_ss, geA_ss, isA, isntA, nonA, isiA_non, isiA_bl, isiA_int, isiA_str, isiA_tup, isiA_lst, isiA_rol, lenA_str, lenA_tup, lenA_lst, lenA_rol, absA_i, toIntA_i, toIntA_b, isIntA, isiB, String.reduceBEq, List.contains_cons, List.contains_nil, Bool.or_true, Bool.true_or, Bool.or_false, Bool.false_or, Bool.and_true, Bool.true_and, Bool.and_false, Bool.false_and, Bool.not_eq_true, if_true, if_false, decide_true, decide_false, Bool.false_eq_true, eq_self, reduceCtorEq, true_and, false_and, and_false, badA, exists_false, aFld, aPut, agFld, aPutAug, aMeth, aMake, mulX_ii, mulX_si, mulX_li, strA_i, strA_s, intXA_i, intXA_b, isBA_bb, isntBA_bb, aPar3, ex_tri, inA_tup, inA_lst, ninA_tup, ninA_lst, shrA_ii, andA_ii, aFor_tup, aFor_lst, aFor_enum, aLcF_lst, aLcF_tup, aLcF_rng, aLcP_lst, aLcP_tup, aLcP_enum, aTryV, aRaise, aCallX, aMethX, aErr, aDct0, aStar, aCallKX, aIsE, aFor_enumT, aFor_zip, aLcP_enumT, aLcP_zip, mulT_ii, mulT_si, mulT_li, mulT_ti, aDGet, aDGet2, aDGet1, aDPut, aDIn, aDInT, aListS, aListZip, aDictZip, aDictP, aRepl, mIsAscii, mIsPrint, Option.isSome_none, Option.isSome_some, aLam, aMkE, aIsT, aErrT, aDispC, aMkE, aIsT, aErrT, aDispC, ix3_0 hp, ix3_1 hp, ix3_2 hp]
  by_cases ha : 0 < a
  · rw [decide_eq_true ha]
    simp only [↓ite_bc, bc_t, bc_f, aFor_rng, lstA_lst, lstA_rol, aLcS_rng, eqA_ii, eqA_ss, neA_ii, neA_ss, updS_same, updS_updS, startA, List.map_cons, List.map_nil, List.cons_append, List.nil_append, List.length_cons, List.length_nil, Nat.zero_add, Nat.add_zero, Nat.reduceAdd, Nat.reduceSub, List.replicate_succ, List.replicate_zero, List.replicate,  aVar_z, aVar_s, aC, aNil, aCons, aTup, aLstV, aLst, aOp, aUn, aTru, aTst, aCmp, aChn, aChnT, aAnd, aOr, aNot, aIf, aAndV, aOrV, aNotV, aCB, aCall, aNext, aSeq, aBrk, aCnt, aRet, aRetN, aIfS, aNev,  agName, agNil, agCons, agTup, aAsg, aPar, aDrop, aCallK, aCallKn, aM, aM0, aAddS, aYes, one1, one2, wipeA, aRevT, aRevL, agSub_def, aSl, aPart, aNoPart, cutAns_rol, cutAns_lst, cutAns_tup, cutAns_str, aLstRg, aRg1, ex_some, tupleA_lst, tupleA_tup, wstA_lst,  List.set_cons_zero, List.set_cons_succ, List.set, ex_bl, ex_int, ex_str, ex_tup, ex_eq, ex_cons, ex_pair, ex_one1, ex_one_int, and_tt, truA_bl, truOk_bl, truA_int, truOk_int, truA_lst, truOk_lst, truA_tup, truOk_tup, truA_refU, truOk_refU, Bool.not_true, Bool.not_false,  addA_ii, addA_ss, addA_tt, addA_ll, intA_ii, int2A_ii, subA_ii, mulA_ii, modA_ii, fdivA_ii, powA_ii, negA_i, ltA_ii, leA_ii, gtA_ii, geA_ii, ltA_ss, leA_ss, gtA_ss, geA_ss, isA, isntA, nonA, isiA_non, isiA_bl, isiA_int, isiA_str, isiA_tup, isiA_lst, isiA_rol, lenA_str, lenA_tup, lenA_lst, lenA_rol, absA_i, toIntA_i, toIntA_b, isIntA, isiB, String.reduceBEq, List.contains_cons, List.contains_nil, Bool.or_true, Bool.true_or, Bool.or_false, Bool.false_or, Bool.and_true, Bool.true_and, Bool.and_false, Bool.false_and, Bool.not_eq_true, if_true, if_false, decide_true, decide_false, Bool.false_eq_true, eq_self, reduceCtorEq, true_and, false_and, and_false, badA, exists_false, aFld, aPut, agFld, aPutAug, aMeth, aMake, mulX_ii, mulX_si, mulX_li, strA_i, strA_s, intXA_i, intXA_b, isBA_bb, isntBA_bb, aPar3, ex_tri, inA_tup, inA_lst, ninA_tup, ninA_lst, shrA_ii, andA_ii, aFor_tup, aFor_lst, aFor_enum, aLcF_lst, aLcF_tup, aLcF_rng, aLcP_lst, aLcP_tup, aLcP_enum, aTryV, aRaise, aCallX, aMethX, aErr, aDct0, aStar, aCallKX, aIsE, aFor_enumT, aFor_zip, aLcP_enumT, aLcP_zip, mulT_ii, mulT_si, mulT_li, mulT_ti, aDGet, aDGet2, aDGet1, aDPut, aDIn, aDInT, aListS, aListZip, aDictZip, aDictP, aRepl, mIsAscii, mIsPrint, Option.isSome_none, Option.isSome_some, aLam, aMkE, aIsT, aErrT, aDispC, aMkE, aIsT, aErrT, aDispC, ix3_0 hp]
    refine ⟨hn0, divS hn0 (by omega), SubAt3_0 hp ?_⟩
    simp only [↓ite_bc, bc_t, bc_f, aFor_rng, lstA_lst, lstA_rol, aLcS_rng, eqA_ii, eqA_ss, neA_ii, neA_ss, updS_same, updS_updS, startA, List.map_cons, List.map_nil, List.cons_append, List.nil_append, List.length_cons, List.length_nil, Nat.zero_add, Nat.add_zero, Nat.reduceAdd, Nat.reduceSub, List.replicate_succ, List.replicate_zero, List.replicate,  aVar_z, aVar_s, aC, aNil, aCons, aTup, aLstV, aLst, aOp, aUn, aTru, aTst, aCmp, aChn, aChnT, aAnd, aOr, aNot, aIf, aAndV, aOrV, aNotV, aCB, aCall, aNext, aSeq, aBrk, aCnt, aRet, aRetN, aIfS, aNev,  agName, agNil, agCons, agTup, aAsg, aPar, aDrop, aCallK, aCallKn, aM, aM0, aAddS, aYes, one1, one2, wipeA, aRevT, aRevL, agSub_def, aSl, aPart, aNoPart, cutAns_rol, cutAns_lst, cutAns_tup, cutAns_str, aLstRg, aRg1, ex_some, tupleA_lst, tupleA_tup, wstA_lst,  List.set_cons_zero, List.set_cons_succ, List.set, ex_bl, ex_int, ex_str, ex_tup, ex_eq, ex_cons, ex_pair, ex_one1, ex_one_int, and_tt, truA_bl, truOk_bl, truA_int, truOk_int, truA_lst, truOk_lst, truA_tup, truOk_tup, truA_refU, truOk_refU, Bool.not_true, Bool.not_false,  addA_ii, addA_ss, addA_tt, addA_ll, intA_ii, int2A_ii, subA_ii, mulA_ii, modA_ii, fdivA_ii, powA_ii, negA_i, ltA_ii, leA_ii, gtA_ii, geA_ii, ltA_ss, leA_ss, gtA_ss, geA_ss, isA, isntA, nonA, isiA_non, isiA_bl, isiA_int, isiA_str, isiA_tup, isiA_lst, isiA_rol, lenA_str, lenA_tup, lenA_lst, lenA_rol, absA_i, toIntA_i, toIntA_b, isIntA, isiB, String.reduceBEq, List.contains_cons, List.contains_nil, Bool.or_true, Bool.true_or, Bool.or_false, Bool.false_or, Bool.and_true, Bool.true_and, Bool.and_false, Bool.false_and, Bool.not_eq_true, if_true, if_false, decide_true, decide_false, Bool.false_eq_true, eq_self, reduceCtorEq, true_and, false_and, and_false, badA, exists_false, aFld, aPut, agFld, aPutAug, aMeth, aMake, mulX_ii, mulX_si, mulX_li, strA_i, strA_s, intXA_i, intXA_b, isBA_bb, isntBA_bb, aPar3, ex_tri, inA_tup, inA_lst, ninA_tup, ninA_lst, shrA_ii, andA_ii, aFor_tup, aFor_lst, aFor_enum, aLcF_lst, aLcF_tup, aLcF_rng, aLcP_lst, aLcP_tup, aLcP_enum, aTryV, aRaise, aCallX, aMethX, aErr, aDct0, aStar, aCallKX, aIsE, aFor_enumT, aFor_zip, aLcP_enumT, aLcP_zip, mulT_ii, mulT_si, mulT_li, mulT_ti, aDGet, aDGet2, aDGet1, aDPut, aDIn, aDInT, aListS, aListZip, aDictZip, aDictP, aRepl, mIsAscii, mIsPrint, Option.isSome_none, Option.isSome_some, aLam, aMkE, aIsT, aErrT, aDispC, aMkE, aIsT, aErrT, aDispC, ]
    exact rt_same (q (a / n, b, c) (a % n) ⟨Int.ediv_nonneg h1 (by omega), h2, h3, h4, by show c ≤ ((N + 1 : Nat) : Int); have : c ≤ N := h5; omega⟩ (Int.emod_nonneg _ (by omega)) (Int.emod_lt_of_pos _ hn0))
  · rw [decide_eq_false ha]
    simp only [↓ite_bc, bc_t, bc_f, aFor_rng, lstA_lst, lstA_rol, aLcS_rng, eqA_ii, eqA_ss, neA_ii, neA_ss, updS_same, updS_updS, startA, List.map_cons, List.map_nil, List.cons_append, List.nil_append, List.length_cons, List.length_nil, Nat.zero_add, Nat.add_zero, Nat.reduceAdd, Nat.reduceSub, List.replicate_succ, List.replicate_zero, List.replicate,  aVar_z, aVar_s, aC, aNil, aCons, aTup, aLstV, aLst, aOp, aUn, aTru, aTst, aCmp, aChn, aChnT, aAnd, aOr, aNot, aIf, aAndV, aOrV, aNotV, aCB, aCall, aNext, aSeq, aBrk, aCnt, aRet, aRetN, aIfS, aNev,  agName, agNil, agCons, agTup, aAsg, aPar, aDrop, aCallK, aCallKn, aM, aM0, aAddS, aYes, one1, one2, wipeA, aRevT, aRevL, agSub_def, aSl, aPart, aNoPart, cutAns_rol, cutAns_lst, cutAns_tup, cutAns_str, aLstRg, aRg1, ex_some, tupleA_lst, tupleA_tup, wstA_lst,  List.set_cons_zero, List.set_cons_succ, List.set, ex_bl, ex_int, ex_str, ex_tup, ex_eq, ex_cons, ex_pair, ex_one1, ex_one_int, and_tt, truA_bl, truOk_bl, truA_int, truOk_int, truA_lst, truOk_lst, truA_tup, truOk_tup, truA_refU, truOk_refU, Bool.not_true, Bool.not_false,  addA_ii, addA_ss, addA_tt, addA_ll, intA_ii, int2A_ii, subA_ii, mulA_ii, modA_ii, fdivA_ii, powA_ii, negA_i, ltA_ii, leA_ii, gtA_ii, geA_ii, ltA_ss, leA_ss, gtA_ss, geA_ss, isA, isntA, nonA, isiA_non, isiA_bl, isiA_int, isiA_str, isiA_tup, isiA_lst, isiA_rol, lenA_str, lenA_tup, lenA_lst, lenA_rol, absA_i, toIntA_i, toIntA_b, isIntA, isiB, String.reduceBEq, List.contains_cons, List.contains_nil, Bool.or_true, Bool.true_or, Bool.or_false, Bool.false_or, Bool.and_true, Bool.true_and, Bool.and_false, Bool.false_and, Bool.not_eq_true, if_true, if_false, decide_true, decide_false, Bool.false_eq_true, eq_self, reduceCtorEq, true_and, false_and, and_false, badA, exists_false, aFld, aPut, agFld, aPutAug, aMeth, aMake, mulX_ii, mulX_si, mulX_li, strA_i, strA_s, intXA_i, intXA_b, isBA_bb, isntBA_bb, aPar3, ex_tri, inA_tup, inA_lst, ninA_tup, ninA_lst, shrA_ii, andA_ii, aFor_tup, aFor_lst, aFor_enum, aLcF_lst, aLcF_tup, aLcF_rng, aLcP_lst, aLcP_tup, aLcP_enum, aTryV, aRaise, aCallX, aMethX, aErr, aDct0, aStar, aCallKX, aIsE, aFor_enumT, aFor_zip, aLcP_enumT, aLcP_zip, mulT_ii, mulT_si, mulT_li, mulT_ti, aDGet, aDGet2, aDGet1, aDPut, aDIn, aDInT, aListS, aListZip, aDictZip, aDictP, aRepl, mIsAscii, mIsPrint, Option.isSome_none, Option.isSome_some, aLam, aMkE, aIsT, aErrT, aDispC, aMkE, aIsT, aErrT, aDispC, ix3_2 hp]
    refine SubAt3_2 hp ?_
    obtain ⟨v, hv0, hv1, hv⟩ := prime_ix (i := (c + 1) % 5) (by omega) (by omega)
    simp only [↓ite_bc, bc_t, bc_f, aFor_rng, lstA_lst, lstA_rol, aLcS_rng, eqA_ii, eqA_ss, neA_ii, neA_ss, updS_same, updS_updS, startA, List.map_cons, List.map_nil, List.cons_append, List.nil_append, List.length_cons, List.length_nil, Nat.zero_add, Nat.add_zero, Nat.reduceAdd, Nat.reduceSub, List.replicate_succ, List.replicate_zero, List.replicate,  aVar_z, aVar_s, aC, aNil, aCons, aTup, aLstV, aLst, aOp, aUn, aTru, aTst, aCmp, aChn, aChnT, aAnd, aOr, aNot, aIf, aAndV, aOrV, aNotV, aCB, aCall, aNext, aSeq, aBrk, aCnt, aRet, aRetN, aIfS, aNev,  agName, agNil, agCons, agTup, aAsg, aPar, aDrop, aCallK, aCallKn, aM, aM0, aAddS, aYes, one1, one2, wipeA, aRevT, aRevL, agSub_def, aSl, aPart, aNoPart, cutAns_rol, cutAns_lst, cutAns_tup, cutAns_str, aLstRg, aRg1, ex_some, tupleA_lst, tupleA_tup, wstA_lst,  List.set_cons_zero, List.set_cons_succ, List.set, ex_bl, ex_int, ex_str, ex_tup, ex_eq, ex_cons, ex_pair, ex_one1, ex_one_int, and_tt, truA_bl, truOk_bl, truA_int, truOk_int, truA_lst, truOk_lst, truA_tup, truOk_tup, truA_refU, truOk_refU, Bool.not_true, Bool.not_false,  addA_ii, addA_ss, addA_tt, addA_ll, intA_ii, int2A_ii, subA_ii, mulA_ii, modA_ii, fdivA_ii, powA_ii, negA_i, ltA_ii, leA_ii, gtA_ii, geA_ii, ltA_ss, leA_ss, gtA_ss, geA_ss, isA, isntA, nonA, isiA_non, isiA_bl, isiA_int, isiA_str, isiA_tup, isiA_lst, isiA_rol, lenA_str, lenA_tup, lenA_lst, lenA_rol, absA_i, toIntA_i, toIntA_b, isIntA, isiB, String.reduceBEq, List.contains_cons, List.contains_nil, Bool.or_true, Bool.true_or, Bool.or_false, Bool.false_or, Bool.and_true, Bool.true_and, Bool.and_false, Bool.false_and, Bool.not_eq_true, if_true, if_false, decide_true, decide_false, Bool.false_eq_true, eq_self, reduceCtorEq, true_and, false_and, and_false, badA, exists_false, aFld, aPut, agFld, aPutAug, aMeth, aMake, mulX_ii, mulX_si, mulX_li, strA_i, strA_s, intXA_i, intXA_b, isBA_bb, isntBA_bb, aPar3, ex_tri, inA_tup, inA_lst, ninA_tup, ninA_lst, shrA_ii, andA_ii, aFor_tup, aFor_lst, aFor_enum, aLcF_lst, aLcF_tup, aLcF_rng, aLcP_lst, aLcP_tup, aLcP_enum, aTryV, aRaise, aCallX, aMethX, aErr, aDct0, aStar, aCallKX, aIsE, aFor_enumT, aFor_zip, aLcP_enumT, aLcP_zip, mulT_ii, mulT_si, mulT_li, mulT_ti, aDGet, aDGet2, aDGet1, aDPut, aDIn, aDInT, aListS, aListZip, aDictZip, aDictP, aRepl, mIsAscii, mIsPrint, Option.isSome_none, Option.isSome_some, aLam, aMkE, aIsT, aErrT, aDispC, aMkE, aIsT, aErrT, aDispC, ixU_0, ixU_1, ixU_2, hv]
    have h4' : 0 ≤ c := h4
    have h5' : c ≤ N := h5
    obtain ⟨k1, k2⟩ := cube_okG (A := 98447) (B := 431) (b := b) (c := c + 1) (by omega) (by omega) (by omega) (by omega) h2 h3 (by omega) (by omega)
    generalize b + 98447 * (c + 1) * (c + 1) + 431 = w at k1 k2 ⊢
    have m1 : 0 ≤ w ^ Int.toNat 3 % v := Int.emod_nonneg _ (by omega)
    have m2 : w ^ Int.toNat 3 % v < v := Int.emod_lt_of_pos _ hv0
    generalize w ^ Int.toNat 3 % v = e at m1 m2 ⊢
    refine ⟨le_sl (by omega), by omega, mulL (by omega) (by omega), mulR (by omega) (by omega), powS k1 k2 (by omega) (by omega), hv0, by omega, mulL (by omega) (by omega), mulL (by omega) (by omega), by omega, divS (by omega) (by omega), hn0, ?_⟩
    exact rt_same (q (a, b, c + 1) _ ⟨h1, h2, h3, by show 0 ≤ c + 1; omega, by show c + 1 ≤ ((N + 1 : Nat) : Int); omega⟩ (Int.emod_nonneg _ (by omega)) (Int.emod_lt_of_pos _ hn0))
def sp__law_cells : ASp := fun ds S Q => ∃ (ns : List Int) (m : Nat), ds = [.rol (ns.map .int), .int m] ∧ 0 < m ∧ m < 1000 ∧ ns.length ≤ 63 ∧ ∀ n : Nat, 0 < n → n ≤ m → Q (.lst (rngA 0 n)) S
set_option maxHeartbeats 4000000 in
theorem fn__law_cells (T : Txt P w K mg C_HouseError f_HouseError C_BadValue C_BadText C_BadValues C_BadDeed C_BadPath C_NoFile C_BadDeeds C_BadTree C_BadName C_BadNumber C_BadSeal C_OtherBody C_NoBlock C_BadRoot C_BadKey C_BadMap C_NoKey C_BadRows C_BadFile C_Beyond C_TooLong C_BadImage C_BadSteps C_BadChoices C_TooFull C_BadNames C_BadPast C_BadCounts C_NoRow C_NoDesk C_NotOwn C_TooMany C_Cheated C_Busy C_NotOpen C_BadRoots C_Full C_BadTellings C_Never C_BadEvents C_BadRule C_BadLine C_NotBusy C_BadAnswer C_BadDay C_DayOver C_NoName)  : FnX P w K mg base 1 "_law_cells" st__law_cells ["script", "most"] sp__law_cells := by
  refine FnX.of T.d__law_cells fun f fd F => F.ok4 sc__law_cells (fun ds S Q h => by unfold sp__law_cells at h; first | (obtain ⟨_, rfl, _⟩ := h; rfl) | (obtain ⟨_, _, rfl, _⟩ := h; rfl) | (obtain ⟨_, _, _, rfl, _⟩ := h; rfl) | (obtain ⟨_, _, _, _, rfl, _⟩ := h; rfl) | (obtain ⟨_, _, _, _, _, rfl, _⟩ := h; rfl) | (obtain ⟨_, _, _, _, _, _, rfl, _⟩ := h; rfl) | (obtain ⟨_, _, _, _, _, _, _, rfl, _⟩ := h; rfl) | (repeat (first | (rcases h with ⟨rfl, _⟩; rfl) | (obtain ⟨_, h⟩ := h)))) fun cdv A gd out s H E hr => ?_
  refine ⟨_, (s_one (s_ret (e_lstRg1 rfl T.n_list T.n_range (e_cb (c_max2 rfl) T.n_max (by decide +kernel) (a_cons e_int (a_cons (e_cb (c_min2 rfl) T.n_min (by decide +kernel) (a_cons (e_var 1) (a_cons (e_cb c_len T.n_len (by decide +kernel) (a_cons (e_var 0) a_nil)) a_nil))) a_nil)))))), ?_⟩
  rintro _ S Q ⟨ns, m, rfl, hm, hm2, hl, q⟩
  walk_at "rd"
  rw [List.length_map]
  have e : ∃ n : Nat, 0 < n ∧ n ≤ m ∧ (if (if (ns.length : Int) < (m : Int) then (ns.length : Int) else (m : Int)) > 1 then (if (ns.length : Int) < (m : Int) then (ns.length : Int) else (m : Int)) else 1) = (n : Int) := by
    by_cases h1 : (ns.length : Int) < m
    · rw [if_pos h1]
      by_cases h2 : (ns.length : Int) > 1
      · exact ⟨ns.length, by omega, by omega, by rw [if_pos h2]⟩
      · exact ⟨1, by omega, by omega, by rw [if_neg h2]; rfl⟩
    · rw [if_neg h1]
      by_cases h2 : (m : Int) > 1
      · exact ⟨m, by omega, by omega, by rw [if_pos h2]⟩
      · exact ⟨1, by omega, by omega, by rw [if_neg h2]; rfl⟩
  obtain ⟨n, hn0, hn1, he⟩ := e
  rw [he]
  have e2 : ((n : Int) - 0).toNat = n := by omega
  rw [e2]
  exact ⟨by unfold RgOk; omega, rt_same (q n hn0 hn1)⟩
theorem kit_fact {P : Program} {w : World} {K : PySem.W.Frag} {mg : Str → Option Value} {C_HouseError f_HouseError C_BadValue C_BadText C_BadValues C_BadDeed C_BadPath C_NoFile C_BadDeeds C_BadTree C_BadName C_BadNumber C_BadSeal C_OtherBody C_NoBlock C_BadRoot C_BadKey C_BadMap C_NoKey C_BadRows C_BadFile C_Beyond C_TooLong C_BadImage C_BadSteps C_BadChoices C_TooFull C_BadNames C_BadPast C_BadCounts C_NoRow C_NoDesk C_NotOwn C_TooMany C_Cheated C_Busy C_NotOpen C_BadRoots C_Full C_BadTellings C_Never C_BadEvents C_BadRule C_BadLine C_NotBusy C_BadAnswer C_BadDay C_DayOver C_NoName C : Addr} (T : Txt P w K mg C_HouseError f_HouseError C_BadValue C_BadText C_BadValues C_BadDeed C_BadPath C_NoFile C_BadDeeds C_BadTree C_BadName C_BadNumber C_BadSeal C_OtherBody C_NoBlock C_BadRoot C_BadKey C_BadMap C_NoKey C_BadRows C_BadFile C_Beyond C_TooLong C_BadImage C_BadSteps C_BadChoices C_TooFull C_BadNames C_BadPast C_BadCounts C_NoRow C_NoDesk C_NotOwn C_TooMany C_Cheated C_Busy C_NotOpen C_BadRoots C_Full C_BadTellings C_Never C_BadEvents C_BadRule C_BadLine C_NotBusy C_BadAnswer C_BadDay C_DayOver C_NoName) (h : C ∈ excL C_HouseError f_HouseError C_BadValue C_BadText C_BadValues C_BadDeed C_BadPath C_NoFile C_BadDeeds C_BadTree C_BadName C_BadNumber C_BadSeal C_OtherBody C_NoBlock C_BadRoot C_BadKey C_BadMap C_NoKey C_BadRows C_BadFile C_Beyond C_TooLong C_BadImage C_BadSteps C_BadChoices C_TooFull C_BadNames C_BadPast C_BadCounts C_NoRow C_NoDesk C_NotOwn C_TooMany C_Cheated C_Busy C_NotOpen C_BadRoots C_Full C_BadTellings C_Never C_BadEvents C_BadRule C_BadLine C_NotBusy C_BadAnswer C_BadDay C_DayOver C_NoName) : ∀ D, D ∈ excL0 C_HouseError f_HouseError C_BadValue C_BadText C_BadValues C_BadDeed C_BadPath C_NoFile C_BadDeeds C_BadTree C_BadName C_BadNumber C_BadSeal C_OtherBody C_NoBlock C_BadRoot C_BadKey C_BadMap C_NoKey C_BadRows C_BadFile C_Beyond C_TooLong C_BadImage C_BadSteps C_BadChoices C_TooFull C_BadNames C_BadPast C_BadCounts C_NoRow C_NoDesk C_NotOwn C_TooMany C_Cheated C_Busy C_NotOpen C_BadRoots C_Full C_BadTellings C_Never C_BadEvents C_BadRule C_BadLine C_NotBusy C_BadAnswer C_BadDay C_DayOver C_NoName → PySem.W.kitOne K (.ref C) (.ref D) = some (C == D) := fun D hD => by
  have z := List.all_eq_true.mp (List.all_eq_true.mp T.kall C h) D hD
  exact beq_iff_eq.mp z
theorem exc_fact {P : Program} {w : World} {K : PySem.W.Frag} {mg : Str → Option Value} {C_HouseError f_HouseError C_BadValue C_BadText C_BadValues C_BadDeed C_BadPath C_NoFile C_BadDeeds C_BadTree C_BadName C_BadNumber C_BadSeal C_OtherBody C_NoBlock C_BadRoot C_BadKey C_BadMap C_NoKey C_BadRows C_BadFile C_Beyond C_TooLong C_BadImage C_BadSteps C_BadChoices C_TooFull C_BadNames C_BadPast C_BadCounts C_NoRow C_NoDesk C_NotOwn C_TooMany C_Cheated C_Busy C_NotOpen C_BadRoots C_Full C_BadTellings C_Never C_BadEvents C_BadRule C_BadLine C_NotBusy C_BadAnswer C_BadDay C_DayOver C_NoName C : Addr} (T : Txt P w K mg C_HouseError f_HouseError C_BadValue C_BadText C_BadValues C_BadDeed C_BadPath C_NoFile C_BadDeeds C_BadTree C_BadName C_BadNumber C_BadSeal C_OtherBody C_NoBlock C_BadRoot C_BadKey C_BadMap C_NoKey C_BadRows C_BadFile C_Beyond C_TooLong C_BadImage C_BadSteps C_BadChoices C_TooFull C_BadNames C_BadPast C_BadCounts C_NoRow C_NoDesk C_NotOwn C_TooMany C_Cheated C_Busy C_NotOpen C_BadRoots C_Full C_BadTellings C_Never C_BadEvents C_BadRule C_BadLine C_NotBusy C_BadAnswer C_BadDay C_DayOver C_NoName) (h : C ∈ excL C_HouseError f_HouseError C_BadValue C_BadText C_BadValues C_BadDeed C_BadPath C_NoFile C_BadDeeds C_BadTree C_BadName C_BadNumber C_BadSeal C_OtherBody C_NoBlock C_BadRoot C_BadKey C_BadMap C_NoKey C_BadRows C_BadFile C_Beyond C_TooLong C_BadImage C_BadSteps C_BadChoices C_TooFull C_BadNames C_BadPast C_BadCounts C_NoRow C_NoDesk C_NotOwn C_TooMany C_Cheated C_Busy C_NotOpen C_BadRoots C_Full C_BadTellings C_Never C_BadEvents C_BadRule C_BadLine C_NotBusy C_BadAnswer C_BadDay C_DayOver C_NoName) : XfV K C := by
  simp only [excL, excL0, List.mem_cons, List.not_mem_nil, or_false] at h
  rcases h with rfl | rfl | rfl | rfl | rfl | rfl | rfl | rfl | rfl | rfl | rfl | rfl | rfl | rfl | rfl | rfl | rfl | rfl | rfl | rfl | rfl | rfl | rfl | rfl | rfl | rfl | rfl | rfl | rfl | rfl | rfl | rfl | rfl | rfl | rfl | rfl | rfl | rfl | rfl | rfl | rfl | rfl | rfl | rfl | rfl | rfl | rfl | rfl
  · exact T.ex_HouseError.xv T.xc_HouseError
  · exact T.ex_BadValue.xv T.xc_BadValue
  · exact T.ex_BadText.xv T.xc_BadText
  · exact T.ex_BadValues.xv T.xc_BadValues
  · exact T.ex_BadDeed.xv T.xc_BadDeed
  · exact T.ex_BadPath.xv T.xc_BadPath
  · exact T.ex_NoFile.xv T.xc_NoFile
  · exact T.ex_BadDeeds.xv T.xc_BadDeeds
  · exact T.ex_BadTree.xv T.xc_BadTree
  · exact T.ex_BadName.xv T.xc_BadName
  · exact T.ex_BadNumber.xv T.xc_BadNumber
  · exact T.ex_BadSeal.xv T.xc_BadSeal
  · exact T.ex_OtherBody.xv T.xc_OtherBody
  · exact T.ex_NoBlock.xv T.xc_NoBlock
  · exact T.ex_BadRoot.xv T.xc_BadRoot
  · exact T.ex_BadKey.xv T.xc_BadKey
  · exact T.ex_BadMap.xv T.xc_BadMap
  · exact T.ex_NoKey.xv T.xc_NoKey
  · exact T.ex_BadRows.xv T.xc_BadRows
  · exact T.ex_BadFile.xv T.xc_BadFile
  · exact T.ex_Beyond.xv T.xc_Beyond
  · exact T.ex_TooLong.xv T.xc_TooLong
  · exact T.ex_BadImage.xv T.xc_BadImage
  · exact T.ex_BadSteps.xv T.xc_BadSteps
  · exact T.ex_BadChoices.xv T.xc_BadChoices
  · exact T.ex_TooFull.xv T.xc_TooFull
  · exact T.ex_BadNames.xv T.xc_BadNames
  · exact T.ex_BadPast.xv T.xc_BadPast
  · exact T.ex_BadCounts.xv T.xc_BadCounts
  · exact T.ex_NoRow.xv T.xc_NoRow
  · exact T.ex_NoDesk.xv T.xc_NoDesk
  · exact T.ex_NotOwn.xv T.xc_NotOwn
  · exact T.ex_TooMany.xv T.xc_TooMany
  · exact T.ex_Cheated.xv T.xc_Cheated
  · exact T.ex_Busy.xv T.xc_Busy
  · exact T.ex_NotOpen.xv T.xc_NotOpen
  · exact T.ex_BadRoots.xv T.xc_BadRoots
  · exact T.ex_Full.xv T.xc_Full
  · exact T.ex_BadTellings.xv T.xc_BadTellings
  · exact T.ex_Never.xv T.xc_Never
  · exact T.ex_BadEvents.xv T.xc_BadEvents
  · exact T.ex_BadRule.xv T.xc_BadRule
  · exact T.ex_BadLine.xv T.xc_BadLine
  · exact T.ex_NotBusy.xv T.xc_NotBusy
  · exact T.ex_BadAnswer.xv T.xc_BadAnswer
  · exact T.ex_BadDay.xv T.xc_BadDay
  · exact T.ex_DayOver.xv T.xc_DayOver
  · exact T.ex_NoName.xv T.xc_NoName
def sp__law_kinds_too (C_HouseError : Addr) (f_HouseError : Addr) (C_BadValue : Addr) (C_BadText : Addr) (C_BadValues : Addr) (C_BadDeed : Addr) (C_BadPath : Addr) (C_NoFile : Addr) (C_BadDeeds : Addr) (C_BadTree : Addr) (C_BadName : Addr) (C_BadNumber : Addr) (C_BadSeal : Addr) (C_OtherBody : Addr) (C_NoBlock : Addr) (C_BadRoot : Addr) (C_BadKey : Addr) (C_BadMap : Addr) (C_NoKey : Addr) (C_BadRows : Addr) (C_BadFile : Addr) (C_Beyond : Addr) (C_TooLong : Addr) (C_BadImage : Addr) (C_BadSteps : Addr) (C_BadChoices : Addr) (C_TooFull : Addr) (C_BadNames : Addr) (C_BadPast : Addr) (C_BadCounts : Addr) (C_NoRow : Addr) (C_NoDesk : Addr) (C_NotOwn : Addr) (C_TooMany : Addr) (C_Cheated : Addr) (C_Busy : Addr) (C_NotOpen : Addr) (C_BadRoots : Addr) (C_Full : Addr) (C_BadTellings : Addr) (C_Never : Addr) (C_BadEvents : Addr) (C_BadRule : Addr) (C_BadLine : Addr) (C_NotBusy : Addr) (C_BadAnswer : Addr) (C_BadDay : Addr) (C_DayOver : Addr) (C_NoName : Addr) : ASp := fun ds S Q => ∃ a C v, ds = [.ref a] ∧ S a = some (.exc C v) ∧ C ∈ excL C_HouseError f_HouseError C_BadValue C_BadText C_BadValues C_BadDeed C_BadPath C_NoFile C_BadDeeds C_BadTree C_BadName C_BadNumber C_BadSeal C_OtherBody C_NoBlock C_BadRoot C_BadKey C_BadMap C_NoKey C_BadRows C_BadFile C_Beyond C_TooLong C_BadImage C_BadSteps C_BadChoices C_TooFull C_BadNames C_BadPast C_BadCounts C_NoRow C_NoDesk C_NotOwn C_TooMany C_Cheated C_Busy C_NotOpen C_BadRoots C_Full C_BadTellings C_Never C_BadEvents C_BadRule C_BadLine C_NotBusy C_BadAnswer C_BadDay C_DayOver C_NoName ∧ Q (.lst ([C_NoKey, C_BadRows, C_BadFile, C_Beyond, C_TooLong, C_BadImage, C_BadSteps, C_BadChoices, C_TooFull, C_BadNames, C_BadPast, C_BadCounts, C_NoRow, C_NoDesk, C_NotOwn, C_TooMany].map fun d => .bl (C == d))) S
set_option maxHeartbeats 4000000 in
theorem fn__law_kinds_too (T : Txt P w K mg C_HouseError f_HouseError C_BadValue C_BadText C_BadValues C_BadDeed C_BadPath C_NoFile C_BadDeeds C_BadTree C_BadName C_BadNumber C_BadSeal C_OtherBody C_NoBlock C_BadRoot C_BadKey C_BadMap C_NoKey C_BadRows C_BadFile C_Beyond C_TooLong C_BadImage C_BadSteps C_BadChoices C_TooFull C_BadNames C_BadPast C_BadCounts C_NoRow C_NoDesk C_NotOwn C_TooMany C_Cheated C_Busy C_NotOpen C_BadRoots C_Full C_BadTellings C_Never C_BadEvents C_BadRule C_BadLine C_NotBusy C_BadAnswer C_BadDay C_DayOver C_NoName)  : FnX P w K mg base 1 "_law_kinds_too" st__law_kinds_too ["error"] (sp__law_kinds_too C_HouseError f_HouseError C_BadValue C_BadText C_BadValues C_BadDeed C_BadPath C_NoFile C_BadDeeds C_BadTree C_BadName C_BadNumber C_BadSeal C_OtherBody C_NoBlock C_BadRoot C_BadKey C_BadMap C_NoKey C_BadRows C_BadFile C_Beyond C_TooLong C_BadImage C_BadSteps C_BadChoices C_TooFull C_BadNames C_BadPast C_BadCounts C_NoRow C_NoDesk C_NotOwn C_TooMany C_Cheated C_Busy C_NotOpen C_BadRoots C_Full C_BadTellings C_Never C_BadEvents C_BadRule C_BadLine C_NotBusy C_BadAnswer C_BadDay C_DayOver C_NoName) := by
  refine FnX.of T.d__law_kinds_too fun f fd F => F.ok4 sc__law_kinds_too (fun ds S Q h => by unfold sp__law_kinds_too at h; first | (obtain ⟨_, rfl, _⟩ := h; rfl) | (obtain ⟨_, _, rfl, _⟩ := h; rfl) | (obtain ⟨_, _, _, rfl, _⟩ := h; rfl) | (obtain ⟨_, _, _, _, rfl, _⟩ := h; rfl) | (obtain ⟨_, _, _, _, _, rfl, _⟩ := h; rfl) | (obtain ⟨_, _, _, _, _, _, rfl, _⟩ := h; rfl) | (obtain ⟨_, _, _, _, _, _, _, rfl, _⟩ := h; rfl) | (repeat (first | (rcases h with ⟨rfl, _⟩; rfl) | (obtain ⟨_, h⟩ := h)))) fun cdv A gd out s H E hr => ?_
  refine ⟨_, (s_cons (s_set 1 sc__law_kinds_too.nd (e_lst (a_cons (e_isT T.n_isinstance (a_cons (e_var 0) (a_cons (e_gC T.g_NoKey) a_nil))) (a_cons (e_isT T.n_isinstance (a_cons (e_var 0) (a_cons (e_gC T.g_BadRows) a_nil))) (a_cons (e_isT T.n_isinstance (a_cons (e_var 0) (a_cons (e_gC T.g_BadFile) a_nil))) a_nil)))))
    (s_cons (s_expr (e_bm PySem.F.plainAttrs_list PySem.F.slot_list_extend PySem.F.type_list_extend m_extend (e_var 1) (a_cons (e_lstV (a_cons (e_isT T.n_isinstance (a_cons (e_var 0) (a_cons (e_gC T.g_Beyond) a_nil))) (a_cons (e_isT T.n_isinstance (a_cons (e_var 0) (a_cons (e_gC T.g_TooLong) a_nil))) (a_cons (e_isT T.n_isinstance (a_cons (e_var 0) (a_cons (e_gC T.g_BadImage) a_nil))) a_nil)))) a_nil)))
    (s_cons (s_expr (e_bm PySem.F.plainAttrs_list PySem.F.slot_list_extend PySem.F.type_list_extend m_extend (e_var 1) (a_cons (e_lstV (a_cons (e_isT T.n_isinstance (a_cons (e_var 0) (a_cons (e_gC T.g_BadSteps) a_nil))) (a_cons (e_isT T.n_isinstance (a_cons (e_var 0) (a_cons (e_gC T.g_BadChoices) a_nil))) (a_cons (e_isT T.n_isinstance (a_cons (e_var 0) (a_cons (e_gC T.g_TooFull) a_nil))) a_nil)))) a_nil)))
    (s_cons (s_expr (e_bm PySem.F.plainAttrs_list PySem.F.slot_list_extend PySem.F.type_list_extend m_extend (e_var 1) (a_cons (e_lstV (a_cons (e_isT T.n_isinstance (a_cons (e_var 0) (a_cons (e_gC T.g_BadNames) a_nil))) (a_cons (e_isT T.n_isinstance (a_cons (e_var 0) (a_cons (e_gC T.g_BadPast) a_nil))) (a_cons (e_isT T.n_isinstance (a_cons (e_var 0) (a_cons (e_gC T.g_BadCounts) a_nil))) a_nil)))) a_nil)))
    (s_cons (s_expr (e_bm PySem.F.plainAttrs_list PySem.F.slot_list_extend PySem.F.type_list_extend m_extend (e_var 1) (a_cons (e_lstV (a_cons (e_isT T.n_isinstance (a_cons (e_var 0) (a_cons (e_gC T.g_NoRow) a_nil))) (a_cons (e_isT T.n_isinstance (a_cons (e_var 0) (a_cons (e_gC T.g_NoDesk) a_nil))) (a_cons (e_isT T.n_isinstance (a_cons (e_var 0) (a_cons (e_gC T.g_NotOwn) a_nil))) a_nil)))) a_nil)))
    (s_cons (s_expr (e_bm PySem.F.plainAttrs_list PySem.F.slot_list_extend PySem.F.type_list_extend m_extend (e_var 1) (a_cons (e_lstV (a_cons (e_isT T.n_isinstance (a_cons (e_var 0) (a_cons (e_gC T.g_TooMany) a_nil))) a_nil)) a_nil)))
    (s_one (s_ret (e_var 1))))))))), ?_⟩
  rintro _ S Q ⟨a, C, v, rfl, hs, hC, q⟩
  have kf := kit_fact T hC
  have xc := exc_fact T hC
  simp only [↓ite_bc, bc_t, bc_f, aFor_rng, lstA_lst, lstA_rol, aLcS_rng, eqA_ii, eqA_ss, neA_ii, neA_ss, updS_same, updS_updS, startA, List.map_cons, List.map_nil, List.cons_append, List.nil_append, List.length_cons, List.length_nil, Nat.zero_add, Nat.add_zero, Nat.reduceAdd, Nat.reduceSub, List.replicate_succ, List.replicate_zero, List.replicate,  aVar_z, aVar_s, aC, aNil, aCons, aTup, aLstV, aLst, aOp, aUn, aTru, aTst, aCmp, aChn, aChnT, aAnd, aOr, aNot, aIf, aAndV, aOrV, aNotV, aCB, aCall, aNext, aSeq, aBrk, aCnt, aRet, aRetN, aIfS, aNev,  agName, agNil, agCons, agTup, aAsg, aPar, aDrop, aCallK, aCallKn, aM, aM0, aAddS, aYes, one1, one2, wipeA, aRevT, aRevL, agSub_def, aSl, aPart, aNoPart, cutAns_rol, cutAns_lst, cutAns_tup, cutAns_str, aLstRg, aRg1, ex_some, tupleA_lst, tupleA_tup, wstA_lst,  List.set_cons_zero, List.set_cons_succ, List.set, ex_bl, ex_int, ex_str, ex_tup, ex_eq, ex_cons, ex_pair, ex_one1, ex_one_int, and_tt, truA_bl, truOk_bl, truA_int, truOk_int, truA_lst, truOk_lst, truA_tup, truOk_tup, truA_refU, truOk_refU, Bool.not_true, Bool.not_false,  addA_ii, addA_ss, addA_tt, addA_ll, intA_ii, int2A_ii, subA_ii, mulA_ii, modA_ii, fdivA_ii, powA_ii, negA_i, ltA_ii, leA_ii, gtA_ii, geA_ii, ltA_ss, leA_ss, gtA_ss, geA_ss, isA, isntA, nonA, isiA_non, isiA_bl, isiA_int, isiA_str, isiA_tup, isiA_lst, isiA_rol, lenA_str, lenA_tup, lenA_lst, lenA_rol, absA_i, toIntA_i, toIntA_b, isIntA, isiB, String.reduceBEq, List.contains_cons, List.contains_nil, Bool.or_true, Bool.true_or, Bool.or_false, Bool.false_or, Bool.and_true, Bool.true_and, Bool.and_false, Bool.false_and, Bool.not_eq_true, if_true, if_false, decide_true, decide_false, Bool.false_eq_true, eq_self, reduceCtorEq, true_and, false_and, and_false, badA, exists_false, aFld, aPut, agFld, aPutAug, aMeth, aMake, mulX_ii, mulX_si, mulX_li, strA_i, strA_s, intXA_i, intXA_b, isBA_bb, isntBA_bb, aPar3, ex_tri, inA_tup, inA_lst, ninA_tup, ninA_lst, shrA_ii, andA_ii, aFor_tup, aFor_lst, aFor_enum, aLcF_lst, aLcF_tup, aLcF_rng, aLcP_lst, aLcP_tup, aLcP_enum, aTryV, aRaise, aCallX, aMethX, aErr, aDct0, aStar, aCallKX, aIsE, aFor_enumT, aFor_zip, aLcP_enumT, aLcP_zip, mulT_ii, mulT_si, mulT_li, mulT_ti, aDGet, aDGet2, aDGet1, aDPut, aDIn, aDInT, aListS, aListZip, aDictZip, aDictP, aRepl, mIsAscii, mIsPrint, Option.isSome_none, Option.isSome_some, aLam, aMkE, aIsT, aErrT, aDispC, aMkE, aIsT, aErrT, aDispC, Int.cast_ofNat_Int, Int.reduceEq, Int.reduceLT, Int.reduceLE, Int.reduceNeg, Int.reduceAdd, Int.reduceSub]
  refine ⟨a, C, v, _, _, _, rfl, hs, xc.2.2, rfl, kf C_NoKey (by simp [excL0]), ?_⟩
  refine ⟨a, C, v, _, _, _, rfl, hs, xc.2.2, rfl, kf C_BadRows (by simp [excL0]), ?_⟩
  refine ⟨a, C, v, _, _, _, rfl, hs, xc.2.2, rfl, kf C_BadFile (by simp [excL0]), ?_⟩
  refine ⟨le_sl (by decide), fun l hl => ?_⟩
  have M0 := Wl.start (F := [(a, .exc C v)]) (xs := [.bl (C == C_NoKey), .bl (C == C_BadRows), .bl (C == C_BadFile)]) (⟨.refl, fun q hq => by simp at hq; subst hq; exact hs⟩ : Wk S [(a, .exc C v)] S) hl
  refine ⟨tyL M0.lst, ?_⟩
  refine ⟨a, C, v, _, _, _, rfl, M0.all (a, _) (by simp), xc.2.2, rfl, kf C_Beyond (by simp [excL0]), ?_⟩
  refine ⟨a, C, v, _, _, _, rfl, M0.all (a, _) (by simp), xc.2.2, rfl, kf C_TooLong (by simp [excL0]), ?_⟩
  refine ⟨a, C, v, _, _, _, rfl, M0.all (a, _) (by simp), xc.2.2, rfl, kf C_BadImage (by simp [excL0]), ?_⟩
  refine ⟨le_sl (by decide), ?_⟩
  refine M0.ext (by simp) fun S1 M1 => ?_
  refine ⟨tyL M1.lst, ?_⟩
  refine ⟨a, C, v, _, _, _, rfl, M1.all (a, _) (by simp), xc.2.2, rfl, kf C_BadSteps (by simp [excL0]), ?_⟩
  refine ⟨a, C, v, _, _, _, rfl, M1.all (a, _) (by simp), xc.2.2, rfl, kf C_BadChoices (by simp [excL0]), ?_⟩
  refine ⟨a, C, v, _, _, _, rfl, M1.all (a, _) (by simp), xc.2.2, rfl, kf C_TooFull (by simp [excL0]), ?_⟩
  refine ⟨le_sl (by decide), ?_⟩
  refine M1.ext (by simp) fun S2 M2 => ?_
  refine ⟨tyL M2.lst, ?_⟩
  refine ⟨a, C, v, _, _, _, rfl, M2.all (a, _) (by simp), xc.2.2, rfl, kf C_BadNames (by simp [excL0]), ?_⟩
  refine ⟨a, C, v, _, _, _, rfl, M2.all (a, _) (by simp), xc.2.2, rfl, kf C_BadPast (by simp [excL0]), ?_⟩
  refine ⟨a, C, v, _, _, _, rfl, M2.all (a, _) (by simp), xc.2.2, rfl, kf C_BadCounts (by simp [excL0]), ?_⟩
  refine ⟨le_sl (by decide), ?_⟩
  refine M2.ext (by simp) fun S3 M3 => ?_
  refine ⟨tyL M3.lst, ?_⟩
  refine ⟨a, C, v, _, _, _, rfl, M3.all (a, _) (by simp), xc.2.2, rfl, kf C_NoRow (by simp [excL0]), ?_⟩
  refine ⟨a, C, v, _, _, _, rfl, M3.all (a, _) (by simp), xc.2.2, rfl, kf C_NoDesk (by simp [excL0]), ?_⟩
  refine ⟨a, C, v, _, _, _, rfl, M3.all (a, _) (by simp), xc.2.2, rfl, kf C_NotOwn (by simp [excL0]), ?_⟩
  refine ⟨le_sl (by decide), ?_⟩
  refine M3.ext (by simp) fun S4 M4 => ?_
  refine ⟨tyL M4.lst, ?_⟩
  refine ⟨a, C, v, _, _, _, rfl, M4.all (a, _) (by simp), xc.2.2, rfl, kf C_TooMany (by simp [excL0]), ?_⟩
  refine ⟨le_sl (by decide), ?_⟩
  refine M4.ext (by simp) fun S5 M5 => ?_
  exact rt_frz M5.lst M5.sub M5.n0 q
def sp__law_kinds_more (C_HouseError : Addr) (f_HouseError : Addr) (C_BadValue : Addr) (C_BadText : Addr) (C_BadValues : Addr) (C_BadDeed : Addr) (C_BadPath : Addr) (C_NoFile : Addr) (C_BadDeeds : Addr) (C_BadTree : Addr) (C_BadName : Addr) (C_BadNumber : Addr) (C_BadSeal : Addr) (C_OtherBody : Addr) (C_NoBlock : Addr) (C_BadRoot : Addr) (C_BadKey : Addr) (C_BadMap : Addr) (C_NoKey : Addr) (C_BadRows : Addr) (C_BadFile : Addr) (C_Beyond : Addr) (C_TooLong : Addr) (C_BadImage : Addr) (C_BadSteps : Addr) (C_BadChoices : Addr) (C_TooFull : Addr) (C_BadNames : Addr) (C_BadPast : Addr) (C_BadCounts : Addr) (C_NoRow : Addr) (C_NoDesk : Addr) (C_NotOwn : Addr) (C_TooMany : Addr) (C_Cheated : Addr) (C_Busy : Addr) (C_NotOpen : Addr) (C_BadRoots : Addr) (C_Full : Addr) (C_BadTellings : Addr) (C_Never : Addr) (C_BadEvents : Addr) (C_BadRule : Addr) (C_BadLine : Addr) (C_NotBusy : Addr) (C_BadAnswer : Addr) (C_BadDay : Addr) (C_DayOver : Addr) (C_NoName : Addr) : ASp := fun ds S Q => ∃ a C v, ds = [.ref a] ∧ S a = some (.exc C v) ∧ C ∈ excL C_HouseError f_HouseError C_BadValue C_BadText C_BadValues C_BadDeed C_BadPath C_NoFile C_BadDeeds C_BadTree C_BadName C_BadNumber C_BadSeal C_OtherBody C_NoBlock C_BadRoot C_BadKey C_BadMap C_NoKey C_BadRows C_BadFile C_Beyond C_TooLong C_BadImage C_BadSteps C_BadChoices C_TooFull C_BadNames C_BadPast C_BadCounts C_NoRow C_NoDesk C_NotOwn C_TooMany C_Cheated C_Busy C_NotOpen C_BadRoots C_Full C_BadTellings C_Never C_BadEvents C_BadRule C_BadLine C_NotBusy C_BadAnswer C_BadDay C_DayOver C_NoName ∧ Q (.lst ([C_Cheated, C_Busy, C_NotOpen, C_BadRoots, C_Full, C_BadTellings, C_Never, C_BadEvents, C_BadRule, C_BadLine, C_NotBusy, C_BadAnswer, C_BadDay, C_DayOver, C_NoName].map fun d => .bl (C == d))) S
set_option maxHeartbeats 4000000 in
theorem fn__law_kinds_more (T : Txt P w K mg C_HouseError f_HouseError C_BadValue C_BadText C_BadValues C_BadDeed C_BadPath C_NoFile C_BadDeeds C_BadTree C_BadName C_BadNumber C_BadSeal C_OtherBody C_NoBlock C_BadRoot C_BadKey C_BadMap C_NoKey C_BadRows C_BadFile C_Beyond C_TooLong C_BadImage C_BadSteps C_BadChoices C_TooFull C_BadNames C_BadPast C_BadCounts C_NoRow C_NoDesk C_NotOwn C_TooMany C_Cheated C_Busy C_NotOpen C_BadRoots C_Full C_BadTellings C_Never C_BadEvents C_BadRule C_BadLine C_NotBusy C_BadAnswer C_BadDay C_DayOver C_NoName)  : FnX P w K mg base 1 "_law_kinds_more" st__law_kinds_more ["error"] (sp__law_kinds_more C_HouseError f_HouseError C_BadValue C_BadText C_BadValues C_BadDeed C_BadPath C_NoFile C_BadDeeds C_BadTree C_BadName C_BadNumber C_BadSeal C_OtherBody C_NoBlock C_BadRoot C_BadKey C_BadMap C_NoKey C_BadRows C_BadFile C_Beyond C_TooLong C_BadImage C_BadSteps C_BadChoices C_TooFull C_BadNames C_BadPast C_BadCounts C_NoRow C_NoDesk C_NotOwn C_TooMany C_Cheated C_Busy C_NotOpen C_BadRoots C_Full C_BadTellings C_Never C_BadEvents C_BadRule C_BadLine C_NotBusy C_BadAnswer C_BadDay C_DayOver C_NoName) := by
  refine FnX.of T.d__law_kinds_more fun f fd F => F.ok4 sc__law_kinds_more (fun ds S Q h => by unfold sp__law_kinds_more at h; first | (obtain ⟨_, rfl, _⟩ := h; rfl) | (obtain ⟨_, _, rfl, _⟩ := h; rfl) | (obtain ⟨_, _, _, rfl, _⟩ := h; rfl) | (obtain ⟨_, _, _, _, rfl, _⟩ := h; rfl) | (obtain ⟨_, _, _, _, _, rfl, _⟩ := h; rfl) | (obtain ⟨_, _, _, _, _, _, rfl, _⟩ := h; rfl) | (obtain ⟨_, _, _, _, _, _, _, rfl, _⟩ := h; rfl) | (repeat (first | (rcases h with ⟨rfl, _⟩; rfl) | (obtain ⟨_, h⟩ := h)))) fun cdv A gd out s H E hr => ?_
  refine ⟨_, (s_cons (s_set 1 sc__law_kinds_more.nd (e_lst (a_cons (e_isT T.n_isinstance (a_cons (e_var 0) (a_cons (e_gC T.g_Cheated) a_nil))) (a_cons (e_isT T.n_isinstance (a_cons (e_var 0) (a_cons (e_gC T.g_Busy) a_nil))) (a_cons (e_isT T.n_isinstance (a_cons (e_var 0) (a_cons (e_gC T.g_NotOpen) a_nil))) a_nil)))))
    (s_cons (s_expr (e_bm PySem.F.plainAttrs_list PySem.F.slot_list_extend PySem.F.type_list_extend m_extend (e_var 1) (a_cons (e_lstV (a_cons (e_isT T.n_isinstance (a_cons (e_var 0) (a_cons (e_gC T.g_BadRoots) a_nil))) (a_cons (e_isT T.n_isinstance (a_cons (e_var 0) (a_cons (e_gC T.g_Full) a_nil))) (a_cons (e_isT T.n_isinstance (a_cons (e_var 0) (a_cons (e_gC T.g_BadTellings) a_nil))) a_nil)))) a_nil)))
    (s_cons (s_expr (e_bm PySem.F.plainAttrs_list PySem.F.slot_list_extend PySem.F.type_list_extend m_extend (e_var 1) (a_cons (e_lstV (a_cons (e_isT T.n_isinstance (a_cons (e_var 0) (a_cons (e_gC T.g_Never) a_nil))) (a_cons (e_isT T.n_isinstance (a_cons (e_var 0) (a_cons (e_gC T.g_BadEvents) a_nil))) (a_cons (e_isT T.n_isinstance (a_cons (e_var 0) (a_cons (e_gC T.g_BadRule) a_nil))) a_nil)))) a_nil)))
    (s_cons (s_expr (e_bm PySem.F.plainAttrs_list PySem.F.slot_list_extend PySem.F.type_list_extend m_extend (e_var 1) (a_cons (e_lstV (a_cons (e_isT T.n_isinstance (a_cons (e_var 0) (a_cons (e_gC T.g_BadLine) a_nil))) (a_cons (e_isT T.n_isinstance (a_cons (e_var 0) (a_cons (e_gC T.g_NotBusy) a_nil))) (a_cons (e_isT T.n_isinstance (a_cons (e_var 0) (a_cons (e_gC T.g_BadAnswer) a_nil))) a_nil)))) a_nil)))
    (s_cons (s_expr (e_bm PySem.F.plainAttrs_list PySem.F.slot_list_extend PySem.F.type_list_extend m_extend (e_var 1) (a_cons (e_lstV (a_cons (e_isT T.n_isinstance (a_cons (e_var 0) (a_cons (e_gC T.g_BadDay) a_nil))) (a_cons (e_isT T.n_isinstance (a_cons (e_var 0) (a_cons (e_gC T.g_DayOver) a_nil))) (a_cons (e_isT T.n_isinstance (a_cons (e_var 0) (a_cons (e_gC T.g_NoName) a_nil))) a_nil)))) a_nil)))
    (s_one (s_ret (e_var 1)))))))), ?_⟩
  rintro _ S Q ⟨a, C, v, rfl, hs, hC, q⟩
  have kf := kit_fact T hC
  have xc := exc_fact T hC
  simp only [↓ite_bc, bc_t, bc_f, aFor_rng, lstA_lst, lstA_rol, aLcS_rng, eqA_ii, eqA_ss, neA_ii, neA_ss, updS_same, updS_updS, startA, List.map_cons, List.map_nil, List.cons_append, List.nil_append, List.length_cons, List.length_nil, Nat.zero_add, Nat.add_zero, Nat.reduceAdd, Nat.reduceSub, List.replicate_succ, List.replicate_zero, List.replicate,  aVar_z, aVar_s, aC, aNil, aCons, aTup, aLstV, aLst, aOp, aUn, aTru, aTst, aCmp, aChn, aChnT, aAnd, aOr, aNot, aIf, aAndV, aOrV, aNotV, aCB, aCall, aNext, aSeq, aBrk, aCnt, aRet, aRetN, aIfS, aNev,  agName, agNil, agCons, agTup, aAsg, aPar, aDrop, aCallK, aCallKn, aM, aM0, aAddS, aYes, one1, one2, wipeA, aRevT, aRevL, agSub_def, aSl, aPart, aNoPart, cutAns_rol, cutAns_lst, cutAns_tup, cutAns_str, aLstRg, aRg1, ex_some, tupleA_lst, tupleA_tup, wstA_lst,  List.set_cons_zero, List.set_cons_succ, List.set, ex_bl, ex_int, ex_str, ex_tup, ex_eq, ex_cons, ex_pair, ex_one1, ex_one_int, and_tt, truA_bl, truOk_bl, truA_int, truOk_int, truA_lst, truOk_lst, truA_tup, truOk_tup, truA_refU, truOk_refU, Bool.not_true, Bool.not_false,  addA_ii, addA_ss, addA_tt, addA_ll, intA_ii, int2A_ii, subA_ii, mulA_ii, modA_ii, fdivA_ii, powA_ii, negA_i, ltA_ii, leA_ii, gtA_ii, geA_ii, ltA_ss, leA_ss, gtA_ss, geA_ss, isA, isntA, nonA, isiA_non, isiA_bl, isiA_int, isiA_str, isiA_tup, isiA_lst, isiA_rol, lenA_str, lenA_tup, lenA_lst, lenA_rol, absA_i, toIntA_i, toIntA_b, isIntA, isiB, String.reduceBEq, List.contains_cons, List.contains_nil, Bool.or_true, Bool.true_or, Bool.or_false, Bool.false_or, Bool.and_true, Bool.true_and, Bool.and_false, Bool.false_and, Bool.not_eq_true, if_true, if_false, decide_true, decide_false, Bool.false_eq_true, eq_self, reduceCtorEq, true_and, false_and, and_false, badA, exists_false, aFld, aPut, agFld, aPutAug, aMeth, aMake, mulX_ii, mulX_si, mulX_li, strA_i, strA_s, intXA_i, intXA_b, isBA_bb, isntBA_bb, aPar3, ex_tri, inA_tup, inA_lst, ninA_tup, ninA_lst, shrA_ii, andA_ii, aFor_tup, aFor_lst, aFor_enum, aLcF_lst, aLcF_tup, aLcF_rng, aLcP_lst, aLcP_tup, aLcP_enum, aTryV, aRaise, aCallX, aMethX, aErr, aDct0, aStar, aCallKX, aIsE, aFor_enumT, aFor_zip, aLcP_enumT, aLcP_zip, mulT_ii, mulT_si, mulT_li, mulT_ti, aDGet, aDGet2, aDGet1, aDPut, aDIn, aDInT, aListS, aListZip, aDictZip, aDictP, aRepl, mIsAscii, mIsPrint, Option.isSome_none, Option.isSome_some, aLam, aMkE, aIsT, aErrT, aDispC, aMkE, aIsT, aErrT, aDispC, Int.cast_ofNat_Int, Int.reduceEq, Int.reduceLT, Int.reduceLE, Int.reduceNeg, Int.reduceAdd, Int.reduceSub]
  refine ⟨a, C, v, _, _, _, rfl, hs, xc.2.2, rfl, kf C_Cheated (by simp [excL0]), ?_⟩
  refine ⟨a, C, v, _, _, _, rfl, hs, xc.2.2, rfl, kf C_Busy (by simp [excL0]), ?_⟩
  refine ⟨a, C, v, _, _, _, rfl, hs, xc.2.2, rfl, kf C_NotOpen (by simp [excL0]), ?_⟩
  refine ⟨le_sl (by decide), fun l hl => ?_⟩
  have M0 := Wl.start (F := [(a, .exc C v)]) (xs := [.bl (C == C_Cheated), .bl (C == C_Busy), .bl (C == C_NotOpen)]) (⟨.refl, fun q hq => by simp at hq; subst hq; exact hs⟩ : Wk S [(a, .exc C v)] S) hl
  refine ⟨tyL M0.lst, ?_⟩
  refine ⟨a, C, v, _, _, _, rfl, M0.all (a, _) (by simp), xc.2.2, rfl, kf C_BadRoots (by simp [excL0]), ?_⟩
  refine ⟨a, C, v, _, _, _, rfl, M0.all (a, _) (by simp), xc.2.2, rfl, kf C_Full (by simp [excL0]), ?_⟩
  refine ⟨a, C, v, _, _, _, rfl, M0.all (a, _) (by simp), xc.2.2, rfl, kf C_BadTellings (by simp [excL0]), ?_⟩
  refine ⟨le_sl (by decide), ?_⟩
  refine M0.ext (by simp) fun S1 M1 => ?_
  refine ⟨tyL M1.lst, ?_⟩
  refine ⟨a, C, v, _, _, _, rfl, M1.all (a, _) (by simp), xc.2.2, rfl, kf C_Never (by simp [excL0]), ?_⟩
  refine ⟨a, C, v, _, _, _, rfl, M1.all (a, _) (by simp), xc.2.2, rfl, kf C_BadEvents (by simp [excL0]), ?_⟩
  refine ⟨a, C, v, _, _, _, rfl, M1.all (a, _) (by simp), xc.2.2, rfl, kf C_BadRule (by simp [excL0]), ?_⟩
  refine ⟨le_sl (by decide), ?_⟩
  refine M1.ext (by simp) fun S2 M2 => ?_
  refine ⟨tyL M2.lst, ?_⟩
  refine ⟨a, C, v, _, _, _, rfl, M2.all (a, _) (by simp), xc.2.2, rfl, kf C_BadLine (by simp [excL0]), ?_⟩
  refine ⟨a, C, v, _, _, _, rfl, M2.all (a, _) (by simp), xc.2.2, rfl, kf C_NotBusy (by simp [excL0]), ?_⟩
  refine ⟨a, C, v, _, _, _, rfl, M2.all (a, _) (by simp), xc.2.2, rfl, kf C_BadAnswer (by simp [excL0]), ?_⟩
  refine ⟨le_sl (by decide), ?_⟩
  refine M2.ext (by simp) fun S3 M3 => ?_
  refine ⟨tyL M3.lst, ?_⟩
  refine ⟨a, C, v, _, _, _, rfl, M3.all (a, _) (by simp), xc.2.2, rfl, kf C_BadDay (by simp [excL0]), ?_⟩
  refine ⟨a, C, v, _, _, _, rfl, M3.all (a, _) (by simp), xc.2.2, rfl, kf C_DayOver (by simp [excL0]), ?_⟩
  refine ⟨a, C, v, _, _, _, rfl, M3.all (a, _) (by simp), xc.2.2, rfl, kf C_NoName (by simp [excL0]), ?_⟩
  refine ⟨le_sl (by decide), ?_⟩
  refine M3.ext (by simp) fun S4 M4 => ?_
  exact rt_frz M4.lst M4.sub M4.n0 q
abbrev sp__law_of : ASp := spOne
set_option maxHeartbeats 4000000 in
theorem fn__law_of (T : Txt P w K mg C_HouseError f_HouseError C_BadValue C_BadText C_BadValues C_BadDeed C_BadPath C_NoFile C_BadDeeds C_BadTree C_BadName C_BadNumber C_BadSeal C_OtherBody C_NoBlock C_BadRoot C_BadKey C_BadMap C_NoKey C_BadRows C_BadFile C_Beyond C_TooLong C_BadImage C_BadSteps C_BadChoices C_TooFull C_BadNames C_BadPast C_BadCounts C_NoRow C_NoDesk C_NotOwn C_TooMany C_Cheated C_Busy C_NotOpen C_BadRoots C_Full C_BadTellings C_Never C_BadEvents C_BadRule C_BadLine C_NotBusy C_BadAnswer C_BadDay C_DayOver C_NoName) (F__law_take : Fn4 P w K mg base 1 "_law_take" ["pot", "upto"] sp__law_take) : FnX P w K mg base 2 "_law_of" st__law_of ["pot", "some"] sp__law_of := by
  refine FnX.of T.d__law_of fun f fd F => F.ok4 sc__law_of (fun ds S Q h => by obtain ⟨_, _, _, _, _, rfl, _⟩ := h; rfl) fun cdv A gd out s H E hr => ?_
  refine ⟨_, (s_one (s_ret (e_ix o_ix (e_var 1) (f_call F__law_take gd (hr.mono (by decide)) (a_cons (e_var 0) (a_cons (e_cb c_len T.n_len (by decide +kernel) (a_cons (e_var 1) a_nil)) a_nil)))))), ?_⟩
  rintro _ S Q ⟨p, t, x, xs, N, rfl, hx, hne, hl, hp, ok, hN, q⟩
  walk_at "rd"
  cases x with
  | str z =>
    have hx : (if z.length ≤ sizeLine then some (signsA z) else none) = some xs := hx
    split at hx
    · rename_i hz
      cases hx
      have hl0 : (signsA z).length = z.length := by unfold signsA; rw [List.length_map, Array.length_toList]; rfl
      have hz0 : 0 < (signsA z).length := List.length_pos_iff.mpr hne
      simp only [↓ite_bc, bc_t, bc_f, aFor_rng, lstA_lst, lstA_rol, aLcS_rng, eqA_ii, eqA_ss, neA_ii, neA_ss, updS_same, updS_updS, startA, List.map_cons, List.map_nil, List.cons_append, List.nil_append, List.length_cons, List.length_nil, Nat.zero_add, Nat.add_zero, Nat.reduceAdd, Nat.reduceSub, List.replicate_succ, List.replicate_zero, List.replicate,  aVar_z, aVar_s, aC, aNil, aCons, aTup, aLstV, aLst, aOp, aUn, aTru, aTst, aCmp, aChn, aChnT, aAnd, aOr, aNot, aIf, aAndV, aOrV, aNotV, aCB, aCall, aNext, aSeq, aBrk, aCnt, aRet, aRetN, aIfS, aNev,  agName, agNil, agCons, agTup, aAsg, aPar, aDrop, aCallK, aCallKn, aM, aM0, aAddS, aYes, one1, one2, wipeA, aRevT, aRevL, agSub_def, aSl, aPart, aNoPart, cutAns_rol, cutAns_lst, cutAns_tup, cutAns_str, aLstRg, aRg1, ex_some, tupleA_lst, tupleA_tup, wstA_lst,  List.set_cons_zero, List.set_cons_succ, List.set, ex_bl, ex_int, ex_str, ex_tup, ex_eq, ex_cons, ex_pair, ex_one1, ex_one_int, and_tt, truA_bl, truOk_bl, truA_int, truOk_int, truA_lst, truOk_lst, truA_tup, truOk_tup, truA_refU, truOk_refU, Bool.not_true, Bool.not_false,  addA_ii, addA_ss, addA_tt, addA_ll, intA_ii, int2A_ii, subA_ii, mulA_ii, modA_ii, fdivA_ii, powA_ii, negA_i, ltA_ii, leA_ii, gtA_ii, geA_ii, ltA_ss, leA_ss, gtA_ss, geA_ss, isA, isntA, nonA, isiA_non, isiA_bl, isiA_int, isiA_str, isiA_tup, isiA_lst, isiA_rol, lenA_str, lenA_tup, lenA_lst, lenA_rol, absA_i, toIntA_i, toIntA_b, isIntA, isiB, String.reduceBEq, List.contains_cons, List.contains_nil, Bool.or_true, Bool.true_or, Bool.or_false, Bool.false_or, Bool.and_true, Bool.true_and, Bool.and_false, Bool.false_and, Bool.not_eq_true, if_true, if_false, decide_true, decide_false, Bool.false_eq_true, eq_self, reduceCtorEq, true_and, false_and, and_false, badA, exists_false, aFld, aPut, agFld, aPutAug, aMeth, aMake, mulX_ii, mulX_si, mulX_li, strA_i, strA_s, intXA_i, intXA_b, isBA_bb, isntBA_bb, aPar3, ex_tri, inA_tup, inA_lst, ninA_tup, ninA_lst, shrA_ii, andA_ii, aFor_tup, aFor_lst, aFor_enum, aLcF_lst, aLcF_tup, aLcF_rng, aLcP_lst, aLcP_tup, aLcP_enum, aTryV, aRaise, aCallX, aMethX, aErr, aDct0, aStar, aCallKX, aIsE, aFor_enumT, aFor_zip, aLcP_enumT, aLcP_zip, mulT_ii, mulT_si, mulT_li, mulT_ti, aDGet, aDGet2, aDGet1, aDPut, aDIn, aDInT, aListS, aListZip, aDictZip, aDictP, aRepl, mIsAscii, mIsPrint, Option.isSome_none, Option.isSome_some, aLam, aMkE, aIsT, aErrT, aDispC, aMkE, aIsT, aErrT, aDispC, ]
      refine ⟨hz, p, t, _, N, rfl, by omega, by omega, hp, ok, hN, fun t' r ok' h0 h1 => ?_⟩
      obtain ⟨c, hc, he⟩ := ixA_str (S := updS S p (potO t')) hz h0 h1
      rw [he]
      exact ⟨trivial, rt_same (q t' _ ok' (List.mem_map.mpr ⟨c, hc, rfl⟩))⟩
    · cases hx
  | lst ys =>
    cases hx
    have hz0 : 0 < xs.length := List.length_pos_iff.mpr hne
    simp only [↓ite_bc, bc_t, bc_f, aFor_rng, lstA_lst, lstA_rol, aLcS_rng, eqA_ii, eqA_ss, neA_ii, neA_ss, updS_same, updS_updS, startA, List.map_cons, List.map_nil, List.cons_append, List.nil_append, List.length_cons, List.length_nil, Nat.zero_add, Nat.add_zero, Nat.reduceAdd, Nat.reduceSub, List.replicate_succ, List.replicate_zero, List.replicate,  aVar_z, aVar_s, aC, aNil, aCons, aTup, aLstV, aLst, aOp, aUn, aTru, aTst, aCmp, aChn, aChnT, aAnd, aOr, aNot, aIf, aAndV, aOrV, aNotV, aCB, aCall, aNext, aSeq, aBrk, aCnt, aRet, aRetN, aIfS, aNev,  agName, agNil, agCons, agTup, aAsg, aPar, aDrop, aCallK, aCallKn, aM, aM0, aAddS, aYes, one1, one2, wipeA, aRevT, aRevL, agSub_def, aSl, aPart, aNoPart, cutAns_rol, cutAns_lst, cutAns_tup, cutAns_str, aLstRg, aRg1, ex_some, tupleA_lst, tupleA_tup, wstA_lst,  List.set_cons_zero, List.set_cons_succ, List.set, ex_bl, ex_int, ex_str, ex_tup, ex_eq, ex_cons, ex_pair, ex_one1, ex_one_int, and_tt, truA_bl, truOk_bl, truA_int, truOk_int, truA_lst, truOk_lst, truA_tup, truOk_tup, truA_refU, truOk_refU, Bool.not_true, Bool.not_false,  addA_ii, addA_ss, addA_tt, addA_ll, intA_ii, int2A_ii, subA_ii, mulA_ii, modA_ii, fdivA_ii, powA_ii, negA_i, ltA_ii, leA_ii, gtA_ii, geA_ii, ltA_ss, leA_ss, gtA_ss, geA_ss, isA, isntA, nonA, isiA_non, isiA_bl, isiA_int, isiA_str, isiA_tup, isiA_lst, isiA_rol, lenA_str, lenA_tup, lenA_lst, lenA_rol, absA_i, toIntA_i, toIntA_b, isIntA, isiB, String.reduceBEq, List.contains_cons, List.contains_nil, Bool.or_true, Bool.true_or, Bool.or_false, Bool.false_or, Bool.and_true, Bool.true_and, Bool.and_false, Bool.false_and, Bool.not_eq_true, if_true, if_false, decide_true, decide_false, Bool.false_eq_true, eq_self, reduceCtorEq, true_and, false_and, and_false, badA, exists_false, aFld, aPut, agFld, aPutAug, aMeth, aMake, mulX_ii, mulX_si, mulX_li, strA_i, strA_s, intXA_i, intXA_b, isBA_bb, isntBA_bb, aPar3, ex_tri, inA_tup, inA_lst, ninA_tup, ninA_lst, shrA_ii, andA_ii, aFor_tup, aFor_lst, aFor_enum, aLcF_lst, aLcF_tup, aLcF_rng, aLcP_lst, aLcP_tup, aLcP_enum, aTryV, aRaise, aCallX, aMethX, aErr, aDct0, aStar, aCallKX, aIsE, aFor_enumT, aFor_zip, aLcP_enumT, aLcP_zip, mulT_ii, mulT_si, mulT_li, mulT_ti, aDGet, aDGet2, aDGet1, aDPut, aDIn, aDInT, aListS, aListZip, aDictZip, aDictP, aRepl, mIsAscii, mIsPrint, Option.isSome_none, Option.isSome_some, aLam, aMkE, aIsT, aErrT, aDispC, aMkE, aIsT, aErrT, aDispC, ]
    refine ⟨p, t, _, N, rfl, by omega, by omega, hp, ok, hN, fun t' r ok' h0 h1 => ?_⟩
    obtain ⟨y, hy, he⟩ := ixA_lst (S := updS S p (potO t')) h0 h1
    rw [he]
    exact ⟨trivial, rt_same (q t' _ ok' hy)⟩
  | tup ys =>
    cases hx
    have hz0 : 0 < xs.length := List.length_pos_iff.mpr hne
    simp only [↓ite_bc, bc_t, bc_f, aFor_rng, lstA_lst, lstA_rol, aLcS_rng, eqA_ii, eqA_ss, neA_ii, neA_ss, updS_same, updS_updS, startA, List.map_cons, List.map_nil, List.cons_append, List.nil_append, List.length_cons, List.length_nil, Nat.zero_add, Nat.add_zero, Nat.reduceAdd, Nat.reduceSub, List.replicate_succ, List.replicate_zero, List.replicate,  aVar_z, aVar_s, aC, aNil, aCons, aTup, aLstV, aLst, aOp, aUn, aTru, aTst, aCmp, aChn, aChnT, aAnd, aOr, aNot, aIf, aAndV, aOrV, aNotV, aCB, aCall, aNext, aSeq, aBrk, aCnt, aRet, aRetN, aIfS, aNev,  agName, agNil, agCons, agTup, aAsg, aPar, aDrop, aCallK, aCallKn, aM, aM0, aAddS, aYes, one1, one2, wipeA, aRevT, aRevL, agSub_def, aSl, aPart, aNoPart, cutAns_rol, cutAns_lst, cutAns_tup, cutAns_str, aLstRg, aRg1, ex_some, tupleA_lst, tupleA_tup, wstA_lst,  List.set_cons_zero, List.set_cons_succ, List.set, ex_bl, ex_int, ex_str, ex_tup, ex_eq, ex_cons, ex_pair, ex_one1, ex_one_int, and_tt, truA_bl, truOk_bl, truA_int, truOk_int, truA_lst, truOk_lst, truA_tup, truOk_tup, truA_refU, truOk_refU, Bool.not_true, Bool.not_false,  addA_ii, addA_ss, addA_tt, addA_ll, intA_ii, int2A_ii, subA_ii, mulA_ii, modA_ii, fdivA_ii, powA_ii, negA_i, ltA_ii, leA_ii, gtA_ii, geA_ii, ltA_ss, leA_ss, gtA_ss, geA_ss, isA, isntA, nonA, isiA_non, isiA_bl, isiA_int, isiA_str, isiA_tup, isiA_lst, isiA_rol, lenA_str, lenA_tup, lenA_lst, lenA_rol, absA_i, toIntA_i, toIntA_b, isIntA, isiB, String.reduceBEq, List.contains_cons, List.contains_nil, Bool.or_true, Bool.true_or, Bool.or_false, Bool.false_or, Bool.and_true, Bool.true_and, Bool.and_false, Bool.false_and, Bool.not_eq_true, if_true, if_false, decide_true, decide_false, Bool.false_eq_true, eq_self, reduceCtorEq, true_and, false_and, and_false, badA, exists_false, aFld, aPut, agFld, aPutAug, aMeth, aMake, mulX_ii, mulX_si, mulX_li, strA_i, strA_s, intXA_i, intXA_b, isBA_bb, isntBA_bb, aPar3, ex_tri, inA_tup, inA_lst, ninA_tup, ninA_lst, shrA_ii, andA_ii, aFor_tup, aFor_lst, aFor_enum, aLcF_lst, aLcF_tup, aLcF_rng, aLcP_lst, aLcP_tup, aLcP_enum, aTryV, aRaise, aCallX, aMethX, aErr, aDct0, aStar, aCallKX, aIsE, aFor_enumT, aFor_zip, aLcP_enumT, aLcP_zip, mulT_ii, mulT_si, mulT_li, mulT_ti, aDGet, aDGet2, aDGet1, aDPut, aDIn, aDInT, aListS, aListZip, aDictZip, aDictP, aRepl, mIsAscii, mIsPrint, Option.isSome_none, Option.isSome_some, aLam, aMkE, aIsT, aErrT, aDispC, aMkE, aIsT, aErrT, aDispC, ]
    refine ⟨p, t, _, N, rfl, by omega, by omega, hp, ok, hN, fun t' r ok' h0 h1 => ?_⟩
    obtain ⟨y, hy, he⟩ := ixA_tup (S := updS S p (potO t')) h0 h1
    rw [he]
    exact ⟨trivial, rt_same (q t' _ ok' hy)⟩
  | _ => cases hx
def sp__law_made_too (C_NoKey : Addr) (C_BadRows : Addr) (C_BadFile : Addr) (C_Beyond : Addr) (C_TooLong : Addr) (C_BadImage : Addr) (C_BadSteps : Addr) (C_BadChoices : Addr) (C_TooFull : Addr) (C_BadNames : Addr) (C_BadPast : Addr) (C_BadCounts : Addr) (C_NoRow : Addr) (C_NoDesk : Addr) (C_NotOwn : Addr) (C_TooMany : Addr) : ASp := fun ds S Q => ∃ v, ds = [v] ∧ ∀ as S', ExcAll v [C_NoKey, C_BadRows, C_BadFile, C_Beyond, C_TooLong, C_BadImage, C_BadSteps, C_BadChoices, C_TooFull, C_BadNames, C_BadPast, C_BadCounts, C_NoRow, C_NoDesk, C_NotOwn, C_TooMany] as S' → Sub S S' → Q (.lst (as.map .ref)) S'
set_option maxHeartbeats 4000000 in
theorem fn__law_made_too (T : Txt P w K mg C_HouseError f_HouseError C_BadValue C_BadText C_BadValues C_BadDeed C_BadPath C_NoFile C_BadDeeds C_BadTree C_BadName C_BadNumber C_BadSeal C_OtherBody C_NoBlock C_BadRoot C_BadKey C_BadMap C_NoKey C_BadRows C_BadFile C_Beyond C_TooLong C_BadImage C_BadSteps C_BadChoices C_TooFull C_BadNames C_BadPast C_BadCounts C_NoRow C_NoDesk C_NotOwn C_TooMany C_Cheated C_Busy C_NotOpen C_BadRoots C_Full C_BadTellings C_Never C_BadEvents C_BadRule C_BadLine C_NotBusy C_BadAnswer C_BadDay C_DayOver C_NoName)  : FnX P w K mg base 2 "_law_made_too" st__law_made_too ["value"] (sp__law_made_too C_NoKey C_BadRows C_BadFile C_Beyond C_TooLong C_BadImage C_BadSteps C_BadChoices C_TooFull C_BadNames C_BadPast C_BadCounts C_NoRow C_NoDesk C_NotOwn C_TooMany) := by
  refine FnX.of T.d__law_made_too fun f fd F => F.ok4 sc__law_made_too (fun ds S Q h => by unfold sp__law_made_too at h; first | (obtain ⟨_, rfl, _⟩ := h; rfl) | (obtain ⟨_, _, rfl, _⟩ := h; rfl) | (obtain ⟨_, _, _, rfl, _⟩ := h; rfl) | (obtain ⟨_, _, _, _, rfl, _⟩ := h; rfl) | (obtain ⟨_, _, _, _, _, rfl, _⟩ := h; rfl) | (obtain ⟨_, _, _, _, _, _, rfl, _⟩ := h; rfl) | (obtain ⟨_, _, _, _, _, _, _, rfl, _⟩ := h; rfl) | (repeat (first | (rcases h with ⟨rfl, _⟩; rfl) | (obtain ⟨_, h⟩ := h)))) fun cdv A gd out s H E hr => ?_
  refine ⟨_, (s_cons (s_set 1 sc__law_made_too.nd (e_lst (a_cons (e_mkE T.hi_HouseError T.ex_NoKey T.g_NoKey (hr.mono (by decide)) (e_var 0)) (a_cons (e_mkE T.hi_HouseError T.ex_BadRows T.g_BadRows (hr.mono (by decide)) (e_var 0)) (a_cons (e_mkE T.hi_HouseError T.ex_BadFile T.g_BadFile (hr.mono (by decide)) (e_var 0)) (a_cons (e_mkE T.hi_HouseError T.ex_Beyond T.g_Beyond (hr.mono (by decide)) (e_var 0)) (a_cons (e_mkE T.hi_HouseError T.ex_TooLong T.g_TooLong (hr.mono (by decide)) (e_var 0)) (a_cons (e_mkE T.hi_HouseError T.ex_BadImage T.g_BadImage (hr.mono (by decide)) (e_var 0)) a_nil))))))))
    (s_cons (s_expr (e_bm PySem.F.plainAttrs_list PySem.F.slot_list_extend PySem.F.type_list_extend m_extend (e_var 1) (a_cons (e_lstV (a_cons (e_mkE T.hi_HouseError T.ex_BadSteps T.g_BadSteps (hr.mono (by decide)) (e_var 0)) (a_cons (e_mkE T.hi_HouseError T.ex_BadChoices T.g_BadChoices (hr.mono (by decide)) (e_var 0)) (a_cons (e_mkE T.hi_HouseError T.ex_TooFull T.g_TooFull (hr.mono (by decide)) (e_var 0)) (a_cons (e_mkE T.hi_HouseError T.ex_BadNames T.g_BadNames (hr.mono (by decide)) (e_var 0)) (a_cons (e_mkE T.hi_HouseError T.ex_BadPast T.g_BadPast (hr.mono (by decide)) (e_var 0)) a_nil)))))) a_nil)))
    (s_cons (s_expr (e_bm PySem.F.plainAttrs_list PySem.F.slot_list_extend PySem.F.type_list_extend m_extend (e_var 1) (a_cons (e_lstV (a_cons (e_mkE T.hi_HouseError T.ex_BadCounts T.g_BadCounts (hr.mono (by decide)) (e_var 0)) (a_cons (e_mkE T.hi_HouseError T.ex_NoRow T.g_NoRow (hr.mono (by decide)) (e_var 0)) (a_cons (e_mkE T.hi_HouseError T.ex_NoDesk T.g_NoDesk (hr.mono (by decide)) (e_var 0)) (a_cons (e_mkE T.hi_HouseError T.ex_NotOwn T.g_NotOwn (hr.mono (by decide)) (e_var 0)) (a_cons (e_mkE T.hi_HouseError T.ex_TooMany T.g_TooMany (hr.mono (by decide)) (e_var 0)) a_nil)))))) a_nil)))
    (s_one (s_ret (e_var 1)))))), ?_⟩
  rintro _ S Q ⟨v, rfl, q⟩
  simp only [↓ite_bc, bc_t, bc_f, aFor_rng, lstA_lst, lstA_rol, aLcS_rng, eqA_ii, eqA_ss, neA_ii, neA_ss, updS_same, updS_updS, startA, List.map_cons, List.map_nil, List.cons_append, List.nil_append, List.length_cons, List.length_nil, Nat.zero_add, Nat.add_zero, Nat.reduceAdd, Nat.reduceSub, List.replicate_succ, List.replicate_zero, List.replicate,  aVar_z, aVar_s, aC, aNil, aCons, aTup, aLstV, aLst, aOp, aUn, aTru, aTst, aCmp, aChn, aChnT, aAnd, aOr, aNot, aIf, aAndV, aOrV, aNotV, aCB, aCall, aNext, aSeq, aBrk, aCnt, aRet, aRetN, aIfS, aNev,  agName, agNil, agCons, agTup, aAsg, aPar, aDrop, aCallK, aCallKn, aM, aM0, aAddS, aYes, one1, one2, wipeA, aRevT, aRevL, agSub_def, aSl, aPart, aNoPart, cutAns_rol, cutAns_lst, cutAns_tup, cutAns_str, aLstRg, aRg1, ex_some, tupleA_lst, tupleA_tup, wstA_lst,  List.set_cons_zero, List.set_cons_succ, List.set, ex_bl, ex_int, ex_str, ex_tup, ex_eq, ex_cons, ex_pair, ex_one1, ex_one_int, and_tt, truA_bl, truOk_bl, truA_int, truOk_int, truA_lst, truOk_lst, truA_tup, truOk_tup, truA_refU, truOk_refU, Bool.not_true, Bool.not_false,  addA_ii, addA_ss, addA_tt, addA_ll, intA_ii, int2A_ii, subA_ii, mulA_ii, modA_ii, fdivA_ii, powA_ii, negA_i, ltA_ii, leA_ii, gtA_ii, geA_ii, ltA_ss, leA_ss, gtA_ss, geA_ss, isA, isntA, nonA, isiA_non, isiA_bl, isiA_int, isiA_str, isiA_tup, isiA_lst, isiA_rol, lenA_str, lenA_tup, lenA_lst, lenA_rol, absA_i, toIntA_i, toIntA_b, isIntA, isiB, String.reduceBEq, List.contains_cons, List.contains_nil, Bool.or_true, Bool.true_or, Bool.or_false, Bool.false_or, Bool.and_true, Bool.true_and, Bool.and_false, Bool.false_and, Bool.not_eq_true, if_true, if_false, decide_true, decide_false, Bool.false_eq_true, eq_self, reduceCtorEq, true_and, false_and, and_false, badA, exists_false, aFld, aPut, agFld, aPutAug, aMeth, aMake, mulX_ii, mulX_si, mulX_li, strA_i, strA_s, intXA_i, intXA_b, isBA_bb, isntBA_bb, aPar3, ex_tri, inA_tup, inA_lst, ninA_tup, ninA_lst, shrA_ii, andA_ii, aFor_tup, aFor_lst, aFor_enum, aLcF_lst, aLcF_tup, aLcF_rng, aLcP_lst, aLcP_tup, aLcP_enum, aTryV, aRaise, aCallX, aMethX, aErr, aDct0, aStar, aCallKX, aIsE, aFor_enumT, aFor_zip, aLcP_enumT, aLcP_zip, mulT_ii, mulT_si, mulT_li, mulT_ti, aDGet, aDGet2, aDGet1, aDPut, aDIn, aDInT, aListS, aListZip, aDictZip, aDictP, aRepl, mIsAscii, mIsPrint, Option.isSome_none, Option.isSome_some, aLam, aMkE, aIsT, aErrT, aDispC, aMkE, aIsT, aErrT, aDispC, Int.cast_ofNat_Int, Int.reduceEq, Int.reduceLT, Int.reduceLE, Int.reduceNeg, Int.reduceAdd, Int.reduceSub]
  have W0 : Wk S [] S := ⟨.refl, fun _ h => by cases h⟩
  refine fun a1 h1 => ?_
  have W1 := W0.new (C := C_NoKey) (v := v) h1
  refine fun a2 h2 => ?_
  have W2 := W1.new (C := C_BadRows) (v := v) h2
  refine fun a3 h3 => ?_
  have W3 := W2.new (C := C_BadFile) (v := v) h3
  refine fun a4 h4 => ?_
  have W4 := W3.new (C := C_Beyond) (v := v) h4
  refine fun a5 h5 => ?_
  have W5 := W4.new (C := C_TooLong) (v := v) h5
  refine fun a6 h6 => ?_
  have W6 := W5.new (C := C_BadImage) (v := v) h6
  refine ⟨le_sl (by decide), fun l hl => ?_⟩
  have L0 := Wl.start (xs := [.ref a1, .ref a2, .ref a3, .ref a4, .ref a5, .ref a6]) W6 hl
  refine ⟨tyL L0.lst, ?_⟩
  refine fun a7 h7 => ?_
  have L7 := L0.new (C := C_BadSteps) (v := v) h7
  refine fun a8 h8 => ?_
  have L8 := L7.new (C := C_BadChoices) (v := v) h8
  refine fun a9 h9 => ?_
  have L9 := L8.new (C := C_TooFull) (v := v) h9
  refine fun a10 h10 => ?_
  have L10 := L9.new (C := C_BadNames) (v := v) h10
  refine fun a11 h11 => ?_
  have L11 := L10.new (C := C_BadPast) (v := v) h11
  refine ⟨le_sl (by decide), ?_⟩
  refine L11.ext (by simp) fun S1 M1 => ?_
  refine ⟨tyL M1.lst, ?_⟩
  refine fun a12 h12 => ?_
  have L12 := M1.new (C := C_BadCounts) (v := v) h12
  refine fun a13 h13 => ?_
  have L13 := L12.new (C := C_NoRow) (v := v) h13
  refine fun a14 h14 => ?_
  have L14 := L13.new (C := C_NoDesk) (v := v) h14
  refine fun a15 h15 => ?_
  have L15 := L14.new (C := C_NotOwn) (v := v) h15
  refine fun a16 h16 => ?_
  have L16 := L15.new (C := C_TooMany) (v := v) h16
  refine ⟨le_sl (by decide), ?_⟩
  refine L16.ext (by simp) fun S2 M2 => ?_
  refine M2.fin fun Sz Wz => q [a1, a2, a3, a4, a5, a6, a7, a8, a9, a10, a11, a12, a13, a14, a15, a16] Sz ?_ Wz.sub
  exact ⟨Wz.all (a1, _) (by simp), Wz.all (a2, _) (by simp), Wz.all (a3, _) (by simp), Wz.all (a4, _) (by simp), Wz.all (a5, _) (by simp), Wz.all (a6, _) (by simp), Wz.all (a7, _) (by simp), Wz.all (a8, _) (by simp), Wz.all (a9, _) (by simp), Wz.all (a10, _) (by simp), Wz.all (a11, _) (by simp), Wz.all (a12, _) (by simp), Wz.all (a13, _) (by simp), Wz.all (a14, _) (by simp), Wz.all (a15, _) (by simp), Wz.all (a16, _) (by simp), trivial⟩
def sp__law_made_more (C_Cheated : Addr) (C_Busy : Addr) (C_NotOpen : Addr) (C_BadRoots : Addr) (C_Full : Addr) (C_BadTellings : Addr) (C_Never : Addr) (C_BadEvents : Addr) (C_BadRule : Addr) (C_BadLine : Addr) (C_NotBusy : Addr) (C_BadAnswer : Addr) (C_BadDay : Addr) (C_DayOver : Addr) (C_NoName : Addr) : ASp := fun ds S Q => ∃ v, ds = [v] ∧ ∀ as S', ExcAll v [C_Cheated, C_Busy, C_NotOpen, C_BadRoots, C_Full, C_BadTellings, C_Never, C_BadEvents, C_BadRule, C_BadLine, C_NotBusy, C_BadAnswer, C_BadDay, C_DayOver, C_NoName] as S' → Sub S S' → Q (.lst (as.map .ref)) S'
set_option maxHeartbeats 4000000 in
theorem fn__law_made_more (T : Txt P w K mg C_HouseError f_HouseError C_BadValue C_BadText C_BadValues C_BadDeed C_BadPath C_NoFile C_BadDeeds C_BadTree C_BadName C_BadNumber C_BadSeal C_OtherBody C_NoBlock C_BadRoot C_BadKey C_BadMap C_NoKey C_BadRows C_BadFile C_Beyond C_TooLong C_BadImage C_BadSteps C_BadChoices C_TooFull C_BadNames C_BadPast C_BadCounts C_NoRow C_NoDesk C_NotOwn C_TooMany C_Cheated C_Busy C_NotOpen C_BadRoots C_Full C_BadTellings C_Never C_BadEvents C_BadRule C_BadLine C_NotBusy C_BadAnswer C_BadDay C_DayOver C_NoName)  : FnX P w K mg base 2 "_law_made_more" st__law_made_more ["value"] (sp__law_made_more C_Cheated C_Busy C_NotOpen C_BadRoots C_Full C_BadTellings C_Never C_BadEvents C_BadRule C_BadLine C_NotBusy C_BadAnswer C_BadDay C_DayOver C_NoName) := by
  refine FnX.of T.d__law_made_more fun f fd F => F.ok4 sc__law_made_more (fun ds S Q h => by unfold sp__law_made_more at h; first | (obtain ⟨_, rfl, _⟩ := h; rfl) | (obtain ⟨_, _, rfl, _⟩ := h; rfl) | (obtain ⟨_, _, _, rfl, _⟩ := h; rfl) | (obtain ⟨_, _, _, _, rfl, _⟩ := h; rfl) | (obtain ⟨_, _, _, _, _, rfl, _⟩ := h; rfl) | (obtain ⟨_, _, _, _, _, _, rfl, _⟩ := h; rfl) | (obtain ⟨_, _, _, _, _, _, _, rfl, _⟩ := h; rfl) | (repeat (first | (rcases h with ⟨rfl, _⟩; rfl) | (obtain ⟨_, h⟩ := h)))) fun cdv A gd out s H E hr => ?_
  refine ⟨_, (s_cons (s_set 1 sc__law_made_more.nd (e_lst (a_cons (e_mkE T.hi_HouseError T.ex_Cheated T.g_Cheated (hr.mono (by decide)) (e_var 0)) (a_cons (e_mkE T.hi_HouseError T.ex_Busy T.g_Busy (hr.mono (by decide)) (e_var 0)) (a_cons (e_mkE T.hi_HouseError T.ex_NotOpen T.g_NotOpen (hr.mono (by decide)) (e_var 0)) (a_cons (e_mkE T.hi_HouseError T.ex_BadRoots T.g_BadRoots (hr.mono (by decide)) (e_var 0)) (a_cons (e_mkE T.hi_HouseError T.ex_Full T.g_Full (hr.mono (by decide)) (e_var 0)) (a_cons (e_mkE T.hi_HouseError T.ex_BadTellings T.g_BadTellings (hr.mono (by decide)) (e_var 0)) a_nil))))))))
    (s_cons (s_expr (e_bm PySem.F.plainAttrs_list PySem.F.slot_list_extend PySem.F.type_list_extend m_extend (e_var 1) (a_cons (e_lstV (a_cons (e_mkE T.hi_HouseError T.ex_Never T.g_Never (hr.mono (by decide)) (e_var 0)) (a_cons (e_mkE T.hi_HouseError T.ex_BadEvents T.g_BadEvents (hr.mono (by decide)) (e_var 0)) (a_cons (e_mkE T.hi_HouseError T.ex_BadRule T.g_BadRule (hr.mono (by decide)) (e_var 0)) (a_cons (e_mkE T.hi_HouseError T.ex_BadLine T.g_BadLine (hr.mono (by decide)) (e_var 0)) (a_cons (e_mkE T.hi_HouseError T.ex_NotBusy T.g_NotBusy (hr.mono (by decide)) (e_var 0)) a_nil)))))) a_nil)))
    (s_cons (s_expr (e_bm PySem.F.plainAttrs_list PySem.F.slot_list_extend PySem.F.type_list_extend m_extend (e_var 1) (a_cons (e_lstV (a_cons (e_mkE T.hi_HouseError T.ex_BadAnswer T.g_BadAnswer (hr.mono (by decide)) (e_var 0)) (a_cons (e_mkE T.hi_HouseError T.ex_BadDay T.g_BadDay (hr.mono (by decide)) (e_var 0)) (a_cons (e_mkE T.hi_HouseError T.ex_DayOver T.g_DayOver (hr.mono (by decide)) (e_var 0)) (a_cons (e_mkE T.hi_HouseError T.ex_NoName T.g_NoName (hr.mono (by decide)) (e_var 0)) a_nil))))) a_nil)))
    (s_one (s_ret (e_var 1)))))), ?_⟩
  rintro _ S Q ⟨v, rfl, q⟩
  simp only [↓ite_bc, bc_t, bc_f, aFor_rng, lstA_lst, lstA_rol, aLcS_rng, eqA_ii, eqA_ss, neA_ii, neA_ss, updS_same, updS_updS, startA, List.map_cons, List.map_nil, List.cons_append, List.nil_append, List.length_cons, List.length_nil, Nat.zero_add, Nat.add_zero, Nat.reduceAdd, Nat.reduceSub, List.replicate_succ, List.replicate_zero, List.replicate,  aVar_z, aVar_s, aC, aNil, aCons, aTup, aLstV, aLst, aOp, aUn, aTru, aTst, aCmp, aChn, aChnT, aAnd, aOr, aNot, aIf, aAndV, aOrV, aNotV, aCB, aCall, aNext, aSeq, aBrk, aCnt, aRet, aRetN, aIfS, aNev,  agName, agNil, agCons, agTup, aAsg, aPar, aDrop, aCallK, aCallKn, aM, aM0, aAddS, aYes, one1, one2, wipeA, aRevT, aRevL, agSub_def, aSl, aPart, aNoPart, cutAns_rol, cutAns_lst, cutAns_tup, cutAns_str, aLstRg, aRg1, ex_some, tupleA_lst, tupleA_tup, wstA_lst,  List.set_cons_zero, List.set_cons_succ, List.set, ex_bl, ex_int, ex_str, ex_tup, ex_eq, ex_cons, ex_pair, ex_one1, ex_one_int, and_tt, truA_bl, truOk_bl, truA_int, truOk_int, truA_lst, truOk_lst, truA_tup, truOk_tup, truA_refU, truOk_refU, Bool.not_true, Bool.not_false,  addA_ii, addA_ss, addA_tt, addA_ll, intA_ii, int2A_ii, subA_ii, mulA_ii, modA_ii, fdivA_ii, powA_ii, negA_i, ltA_ii, leA_ii, gtA_ii, geA_ii, ltA_ss, leA_ss, gtA_ss, geA_ss, isA, isntA, nonA, isiA_non, isiA_bl, isiA_int, isiA_str, isiA_tup, isiA_lst, isiA_rol, lenA_str, lenA_tup, lenA_lst, lenA_rol, absA_i, toIntA_i, toIntA_b, isIntA, isiB, String.reduceBEq, List.contains_cons, List.contains_nil, Bool.or_true, Bool.true_or, Bool.or_false, Bool.false_or, Bool.and_true, Bool.true_and, Bool.and_false, Bool.false_and, Bool.not_eq_true, if_true, if_false, decide_true, decide_false, Bool.false_eq_true, eq_self, reduceCtorEq, true_and, false_and, and_false, badA, exists_false, aFld, aPut, agFld, aPutAug, aMeth, aMake, mulX_ii, mulX_si, mulX_li, strA_i, strA_s, intXA_i, intXA_b, isBA_bb, isntBA_bb, aPar3, ex_tri, inA_tup, inA_lst, ninA_tup, ninA_lst, shrA_ii, andA_ii, aFor_tup, aFor_lst, aFor_enum, aLcF_lst, aLcF_tup, aLcF_rng, aLcP_lst, aLcP_tup, aLcP_enum, aTryV, aRaise, aCallX, aMethX, aErr, aDct0, aStar, aCallKX, aIsE, aFor_enumT, aFor_zip, aLcP_enumT, aLcP_zip, mulT_ii, mulT_si, mulT_li, mulT_ti, aDGet, aDGet2, aDGet1, aDPut, aDIn, aDInT, aListS, aListZip, aDictZip, aDictP, aRepl, mIsAscii, mIsPrint, Option.isSome_none, Option.isSome_some, aLam, aMkE, aIsT, aErrT, aDispC, aMkE, aIsT, aErrT, aDispC, Int.cast_ofNat_Int, Int.reduceEq, Int.reduceLT, Int.reduceLE, Int.reduceNeg, Int.reduceAdd, Int.reduceSub]
  have W0 : Wk S [] S := ⟨.refl, fun _ h => by cases h⟩
  refine fun a1 h1 => ?_
  have W1 := W0.new (C := C_Cheated) (v := v) h1
  refine fun a2 h2 => ?_
  have W2 := W1.new (C := C_Busy) (v := v) h2
  refine fun a3 h3 => ?_
  have W3 := W2.new (C := C_NotOpen) (v := v) h3
  refine fun a4 h4 => ?_
  have W4 := W3.new (C := C_BadRoots) (v := v) h4
  refine fun a5 h5 => ?_
  have W5 := W4.new (C := C_Full) (v := v) h5
  refine fun a6 h6 => ?_
  have W6 := W5.new (C := C_BadTellings) (v := v) h6
  refine ⟨le_sl (by decide), fun l hl => ?_⟩
  have L0 := Wl.start (xs := [.ref a1, .ref a2, .ref a3, .ref a4, .ref a5, .ref a6]) W6 hl
  refine ⟨tyL L0.lst, ?_⟩
  refine fun a7 h7 => ?_
  have L7 := L0.new (C := C_Never) (v := v) h7
  refine fun a8 h8 => ?_
  have L8 := L7.new (C := C_BadEvents) (v := v) h8
  refine fun a9 h9 => ?_
  have L9 := L8.new (C := C_BadRule) (v := v) h9
  refine fun a10 h10 => ?_
  have L10 := L9.new (C := C_BadLine) (v := v) h10
  refine fun a11 h11 => ?_
  have L11 := L10.new (C := C_NotBusy) (v := v) h11
  refine ⟨le_sl (by decide), ?_⟩
  refine L11.ext (by simp) fun S1 M1 => ?_
  refine ⟨tyL M1.lst, ?_⟩
  refine fun a12 h12 => ?_
  have L12 := M1.new (C := C_BadAnswer) (v := v) h12
  refine fun a13 h13 => ?_
  have L13 := L12.new (C := C_BadDay) (v := v) h13
  refine fun a14 h14 => ?_
  have L14 := L13.new (C := C_DayOver) (v := v) h14
  refine fun a15 h15 => ?_
  have L15 := L14.new (C := C_NoName) (v := v) h15
  refine ⟨le_sl (by decide), ?_⟩
  refine L15.ext (by simp) fun S2 M2 => ?_
  refine M2.fin fun Sz Wz => q [a1, a2, a3, a4, a5, a6, a7, a8, a9, a10, a11, a12, a13, a14, a15] Sz ?_ Wz.sub
  exact ⟨Wz.all (a1, _) (by simp), Wz.all (a2, _) (by simp), Wz.all (a3, _) (by simp), Wz.all (a4, _) (by simp), Wz.all (a5, _) (by simp), Wz.all (a6, _) (by simp), Wz.all (a7, _) (by simp), Wz.all (a8, _) (by simp), Wz.all (a9, _) (by simp), Wz.all (a10, _) (by simp), Wz.all (a11, _) (by simp), Wz.all (a12, _) (by simp), Wz.all (a13, _) (by simp), Wz.all (a14, _) (by simp), Wz.all (a15, _) (by simp), trivial⟩
def sp__law_kinds (C_HouseError : Addr) (f_HouseError : Addr) (C_BadValue : Addr) (C_BadText : Addr) (C_BadValues : Addr) (C_BadDeed : Addr) (C_BadPath : Addr) (C_NoFile : Addr) (C_BadDeeds : Addr) (C_BadTree : Addr) (C_BadName : Addr) (C_BadNumber : Addr) (C_BadSeal : Addr) (C_OtherBody : Addr) (C_NoBlock : Addr) (C_BadRoot : Addr) (C_BadKey : Addr) (C_BadMap : Addr) (C_NoKey : Addr) (C_BadRows : Addr) (C_BadFile : Addr) (C_Beyond : Addr) (C_TooLong : Addr) (C_BadImage : Addr) (C_BadSteps : Addr) (C_BadChoices : Addr) (C_TooFull : Addr) (C_BadNames : Addr) (C_BadPast : Addr) (C_BadCounts : Addr) (C_NoRow : Addr) (C_NoDesk : Addr) (C_NotOwn : Addr) (C_TooMany : Addr) (C_Cheated : Addr) (C_Busy : Addr) (C_NotOpen : Addr) (C_BadRoots : Addr) (C_Full : Addr) (C_BadTellings : Addr) (C_Never : Addr) (C_BadEvents : Addr) (C_BadRule : Addr) (C_BadLine : Addr) (C_NotBusy : Addr) (C_BadAnswer : Addr) (C_BadDay : Addr) (C_DayOver : Addr) (C_NoName : Addr) : ASp := fun ds S Q => ∃ a C v, ds = [.ref a] ∧ S a = some (.exc C v) ∧ C ∈ excL C_HouseError f_HouseError C_BadValue C_BadText C_BadValues C_BadDeed C_BadPath C_NoFile C_BadDeeds C_BadTree C_BadName C_BadNumber C_BadSeal C_OtherBody C_NoBlock C_BadRoot C_BadKey C_BadMap C_NoKey C_BadRows C_BadFile C_Beyond C_TooLong C_BadImage C_BadSteps C_BadChoices C_TooFull C_BadNames C_BadPast C_BadCounts C_NoRow C_NoDesk C_NotOwn C_TooMany C_Cheated C_Busy C_NotOpen C_BadRoots C_Full C_BadTellings C_Never C_BadEvents C_BadRule C_BadLine C_NotBusy C_BadAnswer C_BadDay C_DayOver C_NoName ∧ Q (.lst ([C_BadValue, C_BadText, C_BadValues, C_BadDeed, C_BadPath, C_NoFile, C_BadDeeds, C_BadTree, C_BadName, C_BadNumber, C_BadSeal, C_OtherBody, C_NoBlock, C_BadRoot, C_BadKey, C_BadMap, C_NoKey, C_BadRows, C_BadFile, C_Beyond, C_TooLong, C_BadImage, C_BadSteps, C_BadChoices, C_TooFull, C_BadNames, C_BadPast, C_BadCounts, C_NoRow, C_NoDesk, C_NotOwn, C_TooMany, C_Cheated, C_Busy, C_NotOpen, C_BadRoots, C_Full, C_BadTellings, C_Never, C_BadEvents, C_BadRule, C_BadLine, C_NotBusy, C_BadAnswer, C_BadDay, C_DayOver, C_NoName].map fun d => .bl (C == d))) S
set_option maxHeartbeats 4000000 in
theorem fn__law_kinds (T : Txt P w K mg C_HouseError f_HouseError C_BadValue C_BadText C_BadValues C_BadDeed C_BadPath C_NoFile C_BadDeeds C_BadTree C_BadName C_BadNumber C_BadSeal C_OtherBody C_NoBlock C_BadRoot C_BadKey C_BadMap C_NoKey C_BadRows C_BadFile C_Beyond C_TooLong C_BadImage C_BadSteps C_BadChoices C_TooFull C_BadNames C_BadPast C_BadCounts C_NoRow C_NoDesk C_NotOwn C_TooMany C_Cheated C_Busy C_NotOpen C_BadRoots C_Full C_BadTellings C_Never C_BadEvents C_BadRule C_BadLine C_NotBusy C_BadAnswer C_BadDay C_DayOver C_NoName) (F__law_kinds_too : Fn4 P w K mg base 1 "_law_kinds_too" ["error"] (sp__law_kinds_too C_HouseError f_HouseError C_BadValue C_BadText C_BadValues C_BadDeed C_BadPath C_NoFile C_BadDeeds C_BadTree C_BadName C_BadNumber C_BadSeal C_OtherBody C_NoBlock C_BadRoot C_BadKey C_BadMap C_NoKey C_BadRows C_BadFile C_Beyond C_TooLong C_BadImage C_BadSteps C_BadChoices C_TooFull C_BadNames C_BadPast C_BadCounts C_NoRow C_NoDesk C_NotOwn C_TooMany C_Cheated C_Busy C_NotOpen C_BadRoots C_Full C_BadTellings C_Never C_BadEvents C_BadRule C_BadLine C_NotBusy C_BadAnswer C_BadDay C_DayOver C_NoName)) (F__law_kinds_more : Fn4 P w K mg base 1 "_law_kinds_more" ["error"] (sp__law_kinds_more C_HouseError f_HouseError C_BadValue C_BadText C_BadValues C_BadDeed C_BadPath C_NoFile C_BadDeeds C_BadTree C_BadName C_BadNumber C_BadSeal C_OtherBody C_NoBlock C_BadRoot C_BadKey C_BadMap C_NoKey C_BadRows C_BadFile C_Beyond C_TooLong C_BadImage C_BadSteps C_BadChoices C_TooFull C_BadNames C_BadPast C_BadCounts C_NoRow C_NoDesk C_NotOwn C_TooMany C_Cheated C_Busy C_NotOpen C_BadRoots C_Full C_BadTellings C_Never C_BadEvents C_BadRule C_BadLine C_NotBusy C_BadAnswer C_BadDay C_DayOver C_NoName)) : FnX P w K mg base 2 "_law_kinds" st__law_kinds ["error"] (sp__law_kinds C_HouseError f_HouseError C_BadValue C_BadText C_BadValues C_BadDeed C_BadPath C_NoFile C_BadDeeds C_BadTree C_BadName C_BadNumber C_BadSeal C_OtherBody C_NoBlock C_BadRoot C_BadKey C_BadMap C_NoKey C_BadRows C_BadFile C_Beyond C_TooLong C_BadImage C_BadSteps C_BadChoices C_TooFull C_BadNames C_BadPast C_BadCounts C_NoRow C_NoDesk C_NotOwn C_TooMany C_Cheated C_Busy C_NotOpen C_BadRoots C_Full C_BadTellings C_Never C_BadEvents C_BadRule C_BadLine C_NotBusy C_BadAnswer C_BadDay C_DayOver C_NoName) := by
  refine FnX.of T.d__law_kinds fun f fd F => F.ok4 sc__law_kinds (fun ds S Q h => by unfold sp__law_kinds at h; first | (obtain ⟨_, rfl, _⟩ := h; rfl) | (obtain ⟨_, _, rfl, _⟩ := h; rfl) | (obtain ⟨_, _, _, rfl, _⟩ := h; rfl) | (obtain ⟨_, _, _, _, rfl, _⟩ := h; rfl) | (obtain ⟨_, _, _, _, _, rfl, _⟩ := h; rfl) | (obtain ⟨_, _, _, _, _, _, rfl, _⟩ := h; rfl) | (obtain ⟨_, _, _, _, _, _, _, rfl, _⟩ := h; rfl) | (repeat (first | (rcases h with ⟨rfl, _⟩; rfl) | (obtain ⟨_, h⟩ := h)))) fun cdv A gd out s H E hr => ?_
  refine ⟨_, (s_cons (s_set 1 sc__law_kinds.nd (e_lst (a_cons (e_isT T.n_isinstance (a_cons (e_var 0) (a_cons (e_gC T.g_BadValue) a_nil))) (a_cons (e_isT T.n_isinstance (a_cons (e_var 0) (a_cons (e_gC T.g_BadText) a_nil))) (a_cons (e_isT T.n_isinstance (a_cons (e_var 0) (a_cons (e_gC T.g_BadValues) a_nil))) a_nil)))))
    (s_cons (s_expr (e_bm PySem.F.plainAttrs_list PySem.F.slot_list_extend PySem.F.type_list_extend m_extend (e_var 1) (a_cons (e_lstV (a_cons (e_isT T.n_isinstance (a_cons (e_var 0) (a_cons (e_gC T.g_BadDeed) a_nil))) (a_cons (e_isT T.n_isinstance (a_cons (e_var 0) (a_cons (e_gC T.g_BadPath) a_nil))) (a_cons (e_isT T.n_isinstance (a_cons (e_var 0) (a_cons (e_gC T.g_NoFile) a_nil))) a_nil)))) a_nil)))
    (s_cons (s_expr (e_bm PySem.F.plainAttrs_list PySem.F.slot_list_extend PySem.F.type_list_extend m_extend (e_var 1) (a_cons (e_lstV (a_cons (e_isT T.n_isinstance (a_cons (e_var 0) (a_cons (e_gC T.g_BadDeeds) a_nil))) (a_cons (e_isT T.n_isinstance (a_cons (e_var 0) (a_cons (e_gC T.g_BadTree) a_nil))) (a_cons (e_isT T.n_isinstance (a_cons (e_var 0) (a_cons (e_gC T.g_BadName) a_nil))) a_nil)))) a_nil)))
    (s_cons (s_expr (e_bm PySem.F.plainAttrs_list PySem.F.slot_list_extend PySem.F.type_list_extend m_extend (e_var 1) (a_cons (e_lstV (a_cons (e_isT T.n_isinstance (a_cons (e_var 0) (a_cons (e_gC T.g_BadNumber) a_nil))) (a_cons (e_isT T.n_isinstance (a_cons (e_var 0) (a_cons (e_gC T.g_BadSeal) a_nil))) (a_cons (e_isT T.n_isinstance (a_cons (e_var 0) (a_cons (e_gC T.g_OtherBody) a_nil))) a_nil)))) a_nil)))
    (s_cons (s_expr (e_bm PySem.F.plainAttrs_list PySem.F.slot_list_extend PySem.F.type_list_extend m_extend (e_var 1) (a_cons (e_lstV (a_cons (e_isT T.n_isinstance (a_cons (e_var 0) (a_cons (e_gC T.g_NoBlock) a_nil))) (a_cons (e_isT T.n_isinstance (a_cons (e_var 0) (a_cons (e_gC T.g_BadRoot) a_nil))) (a_cons (e_isT T.n_isinstance (a_cons (e_var 0) (a_cons (e_gC T.g_BadKey) a_nil))) a_nil)))) a_nil)))
    (s_cons (s_expr (e_bm PySem.F.plainAttrs_list PySem.F.slot_list_extend PySem.F.type_list_extend m_extend (e_var 1) (a_cons (e_lstV (a_cons (e_isT T.n_isinstance (a_cons (e_var 0) (a_cons (e_gC T.g_BadMap) a_nil))) a_nil)) a_nil)))
    (s_one (s_ret (e_op o_add (e_op o_add (e_var 1) (f_call F__law_kinds_too gd (hr.mono (by decide)) (a_cons (e_var 0) a_nil))) (f_call F__law_kinds_more gd (hr.mono (by decide)) (a_cons (e_var 0) a_nil))))))))))), ?_⟩
  rintro _ S Q ⟨a, C, v, rfl, hs, hC, q⟩
  have kf := kit_fact T hC
  have xc := exc_fact T hC
  simp only [↓ite_bc, bc_t, bc_f, aFor_rng, lstA_lst, lstA_rol, aLcS_rng, eqA_ii, eqA_ss, neA_ii, neA_ss, updS_same, updS_updS, startA, List.map_cons, List.map_nil, List.cons_append, List.nil_append, List.length_cons, List.length_nil, Nat.zero_add, Nat.add_zero, Nat.reduceAdd, Nat.reduceSub, List.replicate_succ, List.replicate_zero, List.replicate,  aVar_z, aVar_s, aC, aNil, aCons, aTup, aLstV, aLst, aOp, aUn, aTru, aTst, aCmp, aChn, aChnT, aAnd, aOr, aNot, aIf, aAndV, aOrV, aNotV, aCB, aCall, aNext, aSeq, aBrk, aCnt, aRet, aRetN, aIfS, aNev,  agName, agNil, agCons, agTup, aAsg, aPar, aDrop, aCallK, aCallKn, aM, aM0, aAddS, aYes, one1, one2, wipeA, aRevT, aRevL, agSub_def, aSl, aPart, aNoPart, cutAns_rol, cutAns_lst, cutAns_tup, cutAns_str, aLstRg, aRg1, ex_some, tupleA_lst, tupleA_tup, wstA_lst,  List.set_cons_zero, List.set_cons_succ, List.set, ex_bl, ex_int, ex_str, ex_tup, ex_eq, ex_cons, ex_pair, ex_one1, ex_one_int, and_tt, truA_bl, truOk_bl, truA_int, truOk_int, truA_lst, truOk_lst, truA_tup, truOk_tup, truA_refU, truOk_refU, Bool.not_true, Bool.not_false,  addA_ii, addA_ss, addA_tt, addA_ll, intA_ii, int2A_ii, subA_ii, mulA_ii, modA_ii, fdivA_ii, powA_ii, negA_i, ltA_ii, leA_ii, gtA_ii, geA_ii, ltA_ss, leA_ss, gtA_ss, geA_ss, isA, isntA, nonA, isiA_non, isiA_bl, isiA_int, isiA_str, isiA_tup, isiA_lst, isiA_rol, lenA_str, lenA_tup, lenA_lst, lenA_rol, absA_i, toIntA_i, toIntA_b, isIntA, isiB, String.reduceBEq, List.contains_cons, List.contains_nil, Bool.or_true, Bool.true_or, Bool.or_false, Bool.false_or, Bool.and_true, Bool.true_and, Bool.and_false, Bool.false_and, Bool.not_eq_true, if_true, if_false, decide_true, decide_false, Bool.false_eq_true, eq_self, reduceCtorEq, true_and, false_and, and_false, badA, exists_false, aFld, aPut, agFld, aPutAug, aMeth, aMake, mulX_ii, mulX_si, mulX_li, strA_i, strA_s, intXA_i, intXA_b, isBA_bb, isntBA_bb, aPar3, ex_tri, inA_tup, inA_lst, ninA_tup, ninA_lst, shrA_ii, andA_ii, aFor_tup, aFor_lst, aFor_enum, aLcF_lst, aLcF_tup, aLcF_rng, aLcP_lst, aLcP_tup, aLcP_enum, aTryV, aRaise, aCallX, aMethX, aErr, aDct0, aStar, aCallKX, aIsE, aFor_enumT, aFor_zip, aLcP_enumT, aLcP_zip, mulT_ii, mulT_si, mulT_li, mulT_ti, aDGet, aDGet2, aDGet1, aDPut, aDIn, aDInT, aListS, aListZip, aDictZip, aDictP, aRepl, mIsAscii, mIsPrint, Option.isSome_none, Option.isSome_some, aLam, aMkE, aIsT, aErrT, aDispC, aMkE, aIsT, aErrT, aDispC, Int.cast_ofNat_Int, Int.reduceEq, Int.reduceLT, Int.reduceLE, Int.reduceNeg, Int.reduceAdd, Int.reduceSub]
  refine ⟨a, C, v, _, _, _, rfl, hs, xc.2.2, rfl, kf C_BadValue (by simp [excL0]), ?_⟩
  refine ⟨a, C, v, _, _, _, rfl, hs, xc.2.2, rfl, kf C_BadText (by simp [excL0]), ?_⟩
  refine ⟨a, C, v, _, _, _, rfl, hs, xc.2.2, rfl, kf C_BadValues (by simp [excL0]), ?_⟩
  refine ⟨le_sl (by decide), fun l hl => ?_⟩
  have M0 := Wl.start (F := [(a, .exc C v)]) (xs := [.bl (C == C_BadValue), .bl (C == C_BadText), .bl (C == C_BadValues)]) (⟨.refl, fun q hq => by simp at hq; subst hq; exact hs⟩ : Wk S [(a, .exc C v)] S) hl
  refine ⟨tyL M0.lst, ?_⟩
  refine ⟨a, C, v, _, _, _, rfl, M0.all (a, _) (by simp), xc.2.2, rfl, kf C_BadDeed (by simp [excL0]), ?_⟩
  refine ⟨a, C, v, _, _, _, rfl, M0.all (a, _) (by simp), xc.2.2, rfl, kf C_BadPath (by simp [excL0]), ?_⟩
  refine ⟨a, C, v, _, _, _, rfl, M0.all (a, _) (by simp), xc.2.2, rfl, kf C_NoFile (by simp [excL0]), ?_⟩
  refine ⟨le_sl (by decide), ?_⟩
  refine M0.ext (by simp) fun S1 M1 => ?_
  refine ⟨tyL M1.lst, ?_⟩
  refine ⟨a, C, v, _, _, _, rfl, M1.all (a, _) (by simp), xc.2.2, rfl, kf C_BadDeeds (by simp [excL0]), ?_⟩
  refine ⟨a, C, v, _, _, _, rfl, M1.all (a, _) (by simp), xc.2.2, rfl, kf C_BadTree (by simp [excL0]), ?_⟩
  refine ⟨a, C, v, _, _, _, rfl, M1.all (a, _) (by simp), xc.2.2, rfl, kf C_BadName (by simp [excL0]), ?_⟩
  refine ⟨le_sl (by decide), ?_⟩
  refine M1.ext (by simp) fun S2 M2 => ?_
  refine ⟨tyL M2.lst, ?_⟩
  refine ⟨a, C, v, _, _, _, rfl, M2.all (a, _) (by simp), xc.2.2, rfl, kf C_BadNumber (by simp [excL0]), ?_⟩
  refine ⟨a, C, v, _, _, _, rfl, M2.all (a, _) (by simp), xc.2.2, rfl, kf C_BadSeal (by simp [excL0]), ?_⟩
  refine ⟨a, C, v, _, _, _, rfl, M2.all (a, _) (by simp), xc.2.2, rfl, kf C_OtherBody (by simp [excL0]), ?_⟩
  refine ⟨le_sl (by decide), ?_⟩
  refine M2.ext (by simp) fun S3 M3 => ?_
  refine ⟨tyL M3.lst, ?_⟩
  refine ⟨a, C, v, _, _, _, rfl, M3.all (a, _) (by simp), xc.2.2, rfl, kf C_NoBlock (by simp [excL0]), ?_⟩
  refine ⟨a, C, v, _, _, _, rfl, M3.all (a, _) (by simp), xc.2.2, rfl, kf C_BadRoot (by simp [excL0]), ?_⟩
  refine ⟨a, C, v, _, _, _, rfl, M3.all (a, _) (by simp), xc.2.2, rfl, kf C_BadKey (by simp [excL0]), ?_⟩
  refine ⟨le_sl (by decide), ?_⟩
  refine M3.ext (by simp) fun S4 M4 => ?_
  refine ⟨tyL M4.lst, ?_⟩
  refine ⟨a, C, v, _, _, _, rfl, M4.all (a, _) (by simp), xc.2.2, rfl, kf C_BadMap (by simp [excL0]), ?_⟩
  refine ⟨le_sl (by decide), ?_⟩
  refine M4.ext (by simp) fun S5 M5 => ?_
  refine ⟨a, C, v, rfl, M5.all (a, _) (by simp), hC, ?_⟩
  dsimp only
  rw [addA_rl M5.lst]
  dsimp only
  refine ⟨le_sl (by simp), ?_⟩
  refine ⟨a, C, v, rfl, M5.all (a, _) (by simp), hC, ?_⟩
  simp only [↓ite_bc, bc_t, bc_f, aFor_rng, lstA_lst, lstA_rol, aLcS_rng, eqA_ii, eqA_ss, neA_ii, neA_ss, updS_same, updS_updS, startA, List.map_cons, List.map_nil, List.cons_append, List.nil_append, List.length_cons, List.length_nil, Nat.zero_add, Nat.add_zero, Nat.reduceAdd, Nat.reduceSub, List.replicate_succ, List.replicate_zero, List.replicate,  aVar_z, aVar_s, aC, aNil, aCons, aTup, aLstV, aLst, aOp, aUn, aTru, aTst, aCmp, aChn, aChnT, aAnd, aOr, aNot, aIf, aAndV, aOrV, aNotV, aCB, aCall, aNext, aSeq, aBrk, aCnt, aRet, aRetN, aIfS, aNev,  agName, agNil, agCons, agTup, aAsg, aPar, aDrop, aCallK, aCallKn, aM, aM0, aAddS, aYes, one1, one2, wipeA, aRevT, aRevL, agSub_def, aSl, aPart, aNoPart, cutAns_rol, cutAns_lst, cutAns_tup, cutAns_str, aLstRg, aRg1, ex_some, tupleA_lst, tupleA_tup, wstA_lst,  List.set_cons_zero, List.set_cons_succ, List.set, ex_bl, ex_int, ex_str, ex_tup, ex_eq, ex_cons, ex_pair, ex_one1, ex_one_int, and_tt, truA_bl, truOk_bl, truA_int, truOk_int, truA_lst, truOk_lst, truA_tup, truOk_tup, truA_refU, truOk_refU, Bool.not_true, Bool.not_false,  addA_ii, addA_ss, addA_tt, addA_ll, intA_ii, int2A_ii, subA_ii, mulA_ii, modA_ii, fdivA_ii, powA_ii, negA_i, ltA_ii, leA_ii, gtA_ii, geA_ii, ltA_ss, leA_ss, gtA_ss, geA_ss, isA, isntA, nonA, isiA_non, isiA_bl, isiA_int, isiA_str, isiA_tup, isiA_lst, isiA_rol, lenA_str, lenA_tup, lenA_lst, lenA_rol, absA_i, toIntA_i, toIntA_b, isIntA, isiB, String.reduceBEq, List.contains_cons, List.contains_nil, Bool.or_true, Bool.true_or, Bool.or_false, Bool.false_or, Bool.and_true, Bool.true_and, Bool.and_false, Bool.false_and, Bool.not_eq_true, if_true, if_false, decide_true, decide_false, Bool.false_eq_true, eq_self, reduceCtorEq, true_and, false_and, and_false, badA, exists_false, aFld, aPut, agFld, aPutAug, aMeth, aMake, mulX_ii, mulX_si, mulX_li, strA_i, strA_s, intXA_i, intXA_b, isBA_bb, isntBA_bb, aPar3, ex_tri, inA_tup, inA_lst, ninA_tup, ninA_lst, shrA_ii, andA_ii, aFor_tup, aFor_lst, aFor_enum, aLcF_lst, aLcF_tup, aLcF_rng, aLcP_lst, aLcP_tup, aLcP_enum, aTryV, aRaise, aCallX, aMethX, aErr, aDct0, aStar, aCallKX, aIsE, aFor_enumT, aFor_zip, aLcP_enumT, aLcP_zip, mulT_ii, mulT_si, mulT_li, mulT_ti, aDGet, aDGet2, aDGet1, aDPut, aDIn, aDInT, aListS, aListZip, aDictZip, aDictP, aRepl, mIsAscii, mIsPrint, Option.isSome_none, Option.isSome_some, aLam, aMkE, aIsT, aErrT, aDispC, aMkE, aIsT, aErrT, aDispC, Int.cast_ofNat_Int, Int.reduceEq, Int.reduceLT, Int.reduceLE, Int.reduceNeg, Int.reduceAdd, Int.reduceSub]
  refine ⟨le_sl (by simp), ?_⟩
  exact rt_sub M5.sub q
def oddPs : List AV := [.non, .bl true, .bl false, .int 0, .int (-1), .str "", .str "A", .tup [], .lst [], .tup [.tup []], .tup [.non], .lst [.int 0], .tup [.int 0], .tup [.str "a"], .tup [.tup [.int 0, .int 1]], .tup [.str "ann"], .tup [.str "ann", .str "bob"], .tup [.str "bob", .str "ann"], .str "ann", .tup [.str "knows", .tup [.int 0], .tup [.int 1]], .tup [.str "not", .tup []]]
def OddV (S : Store) (x : AV) : Prop := x ∈ oddPs ∨ (∃ l, x = .ref l ∧ S l = some (.dK [])) ∨ ∃ l, x = .ref l ∧ S l = some (.dK [(.inr "a", .int 1)])
def sp__law_odd : ASp := fun ds S Q => ∃ (p : Addr) (t : Pt) (N : Nat), ds = [.ref p] ∧ S p = some (potO t) ∧ okP N t ∧ N < 2 ^ 30 ∧ ∀ t' y S', okP (N + 1) t' → S' p = some (potO t') → OddV S' y → Q y S'
set_option maxHeartbeats 4000000 in
theorem fn__law_odd (T : Txt P w K mg C_HouseError f_HouseError C_BadValue C_BadText C_BadValues C_BadDeed C_BadPath C_NoFile C_BadDeeds C_BadTree C_BadName C_BadNumber C_BadSeal C_OtherBody C_NoBlock C_BadRoot C_BadKey C_BadMap C_NoKey C_BadRows C_BadFile C_Beyond C_TooLong C_BadImage C_BadSteps C_BadChoices C_TooFull C_BadNames C_BadPast C_BadCounts C_NoRow C_NoDesk C_NotOwn C_TooMany C_Cheated C_Busy C_NotOpen C_BadRoots C_Full C_BadTellings C_Never C_BadEvents C_BadRule C_BadLine C_NotBusy C_BadAnswer C_BadDay C_DayOver C_NoName) (F__law_of : Fn4 P w K mg base 2 "_law_of" ["pot", "some"] sp__law_of) : FnX P w K mg base 3 "_law_odd" st__law_odd ["pot"] sp__law_odd := by
  refine FnX.of T.d__law_odd fun f fd F => F.ok4 sc__law_odd (fun ds S Q h => by unfold sp__law_odd at h; first | (obtain ⟨_, rfl, _⟩ := h; rfl) | (obtain ⟨_, _, rfl, _⟩ := h; rfl) | (obtain ⟨_, _, _, rfl, _⟩ := h; rfl) | (obtain ⟨_, _, _, _, rfl, _⟩ := h; rfl) | (obtain ⟨_, _, _, _, _, rfl, _⟩ := h; rfl) | (obtain ⟨_, _, _, _, _, _, rfl, _⟩ := h; rfl) | (obtain ⟨_, _, _, _, _, _, _, rfl, _⟩ := h; rfl) | (repeat (first | (rcases h with ⟨rfl, _⟩; rfl) | (obtain ⟨_, h⟩ := h)))) fun cdv A gd out s H E hr => ?_
  refine ⟨_, (s_cons (s_set 1 sc__law_odd.nd (e_lstV (a_cons e_non (a_cons e_bl (a_cons e_bl (a_cons e_int (a_cons (e_un o_neg e_int) (a_cons e_str (a_cons e_str (a_cons (e_tup a_nil) (a_cons (e_lstV a_nil) (a_cons e_dct0 (a_cons (e_tup (a_cons (e_tup a_nil) a_nil)) (a_cons (e_tup (a_cons e_non a_nil)) (a_cons (e_lstV (a_cons e_int a_nil)) (a_cons (e_tup (a_cons e_int a_nil)) (a_cons (e_tup (a_cons e_str a_nil)) (a_cons (e_tup (a_cons (e_tup (a_cons e_int (a_cons e_int a_nil))) a_nil)) (a_cons (e_tup (a_cons e_str a_nil)) a_nil)))))))))))))))))))
    (s_one (s_ret (f_call F__law_of gd (hr.mono (by decide)) (a_cons (e_var 0) (a_cons (e_op o_add (e_var 1) (e_lstV (a_cons (e_tup (a_cons e_str (a_cons e_str a_nil))) (a_cons (e_tup (a_cons e_str (a_cons e_str a_nil))) (a_cons e_dispSI (a_cons e_str (a_cons (e_tup (a_cons e_str (a_cons (e_tup (a_cons e_int a_nil)) (a_cons (e_tup (a_cons e_int a_nil)) a_nil)))) (a_cons (e_tup (a_cons e_str (a_cons (e_tup a_nil) a_nil))) a_nil)))))))) a_nil)))))), ?_⟩
  rintro _ S Q ⟨p, t, N, rfl, hp, ok, hN, q⟩
  simp only [↓ite_bc, bc_t, bc_f, aFor_rng, lstA_lst, lstA_rol, aLcS_rng, eqA_ii, eqA_ss, neA_ii, neA_ss, updS_same, updS_updS, startA, List.map_cons, List.map_nil, List.cons_append, List.nil_append, List.length_cons, List.length_nil, Nat.zero_add, Nat.add_zero, Nat.reduceAdd, Nat.reduceSub, List.replicate_succ, List.replicate_zero, List.replicate,  aVar_z, aVar_s, aC, aNil, aCons, aTup, aLstV, aLst, aOp, aUn, aTru, aTst, aCmp, aChn, aChnT, aAnd, aOr, aNot, aIf, aAndV, aOrV, aNotV, aCB, aCall, aNext, aSeq, aBrk, aCnt, aRet, aRetN, aIfS, aNev,  agName, agNil, agCons, agTup, aAsg, aPar, aDrop, aCallK, aCallKn, aM, aM0, aAddS, aYes, one1, one2, wipeA, aRevT, aRevL, agSub_def, aSl, aPart, aNoPart, cutAns_rol, cutAns_lst, cutAns_tup, cutAns_str, aLstRg, aRg1, ex_some, tupleA_lst, tupleA_tup, wstA_lst,  List.set_cons_zero, List.set_cons_succ, List.set, ex_bl, ex_int, ex_str, ex_tup, ex_eq, ex_cons, ex_pair, ex_one1, ex_one_int, and_tt, truA_bl, truOk_bl, truA_int, truOk_int, truA_lst, truOk_lst, truA_tup, truOk_tup, truA_refU, truOk_refU, Bool.not_true, Bool.not_false,  addA_ii, addA_ss, addA_tt, addA_ll, intA_ii, int2A_ii, subA_ii, mulA_ii, modA_ii, fdivA_ii, powA_ii, negA_i, ltA_ii, leA_ii, gtA_ii, geA_ii, ltA_ss, leA_ss, gtA_ss, geA_ss, isA, isntA, nonA, isiA_non, isiA_bl, isiA_int, isiA_str, isiA_tup, isiA_lst, isiA_rol, lenA_str, lenA_tup, lenA_lst, lenA_rol, absA_i, toIntA_i, toIntA_b, isIntA, isiB, String.reduceBEq, List.contains_cons, List.contains_nil, Bool.or_true, Bool.true_or, Bool.or_false, Bool.false_or, Bool.and_true, Bool.true_and, Bool.and_false, Bool.false_and, Bool.not_eq_true, if_true, if_false, decide_true, decide_false, Bool.false_eq_true, eq_self, reduceCtorEq, true_and, false_and, and_false, badA, exists_false, aFld, aPut, agFld, aPutAug, aMeth, aMake, mulX_ii, mulX_si, mulX_li, strA_i, strA_s, intXA_i, intXA_b, isBA_bb, isntBA_bb, aPar3, ex_tri, inA_tup, inA_lst, ninA_tup, ninA_lst, shrA_ii, andA_ii, aFor_tup, aFor_lst, aFor_enum, aLcF_lst, aLcF_tup, aLcF_rng, aLcP_lst, aLcP_tup, aLcP_enum, aTryV, aRaise, aCallX, aMethX, aErr, aDct0, aStar, aCallKX, aIsE, aFor_enumT, aFor_zip, aLcP_enumT, aLcP_zip, mulT_ii, mulT_si, mulT_li, mulT_ti, aDGet, aDGet2, aDGet1, aDPut, aDIn, aDInT, aListS, aListZip, aDictZip, aDictP, aRepl, mIsAscii, mIsPrint, Option.isSome_none, Option.isSome_some, aLam, aMkE, aIsT, aErrT, aDispC, aMkE, aIsT, aErrT, aDispC, Int.cast_ofNat_Int, Int.reduceEq, Int.reduceLT, Int.reduceLE, Int.reduceNeg, Int.reduceAdd, Int.reduceSub]
  repeat (refine ⟨le_sl (by decide), ?_⟩)
  intro l1 h1
  repeat (refine ⟨le_sl (by decide), ?_⟩)
  intro l2 h2
  repeat (refine ⟨le_sl (by decide), ?_⟩)
  have n1 : p ≠ l1 := neS hp h1
  have g1 : updS S l1 (.dK []) p = some (potO t) := (updS_ne n1).trans hp
  have n2 : p ≠ l2 := neS g1 h2
  have n3 : l1 ≠ l2 := neS updS_same h2
  refine one_lst (by simp) (by simp) ((updS_ne n2).trans g1) ok (by omega) fun t' y ok' hy => ?_
  refine rt_same (q t' y _ ok' updS_same ?_)
  have e1 : updS (updS (updS S l1 (.dK [])) l2 (.dK [(Sum.inr (Str.ofString "a"), .int 1)])) p (potO t') l1 = some (.dK []) := (updS_ne (Ne.symm n1)).trans ((updS_ne n3).trans updS_same)
  have e2 : updS (updS (updS S l1 (.dK [])) l2 (.dK [(Sum.inr (Str.ofString "a"), .int 1)])) p (potO t') l2 = some (.dK [(Sum.inr (Str.ofString "a"), .int 1)]) := (updS_ne (Ne.symm n2)).trans updS_same
  generalize updS (updS (updS S l1 (.dK [])) l2 (.dK [(Sum.inr (Str.ofString "a"), .int 1)])) p (potO t') = Sz at e1 e2 ⊢
  simp only [List.mem_cons, List.not_mem_nil, or_false] at hy
  rcases hy with rfl | rfl | rfl | rfl | rfl | rfl | rfl | rfl | rfl | rfl | rfl | rfl | rfl | rfl | rfl | rfl | rfl | rfl | rfl | rfl | rfl | rfl | rfl
  all_goals first | exact .inr (.inl ⟨_, rfl, e1⟩) | exact .inr (.inr ⟨_, rfl, e2⟩) | exact .inl (by simp [oddPs])
def sp__law_made (C_BadValue : Addr) (C_BadText : Addr) (C_BadValues : Addr) (C_BadDeed : Addr) (C_BadPath : Addr) (C_NoFile : Addr) (C_BadDeeds : Addr) (C_BadTree : Addr) (C_BadName : Addr) (C_BadNumber : Addr) (C_BadSeal : Addr) (C_OtherBody : Addr) (C_NoBlock : Addr) (C_BadRoot : Addr) (C_BadKey : Addr) (C_BadMap : Addr) (C_NoKey : Addr) (C_BadRows : Addr) (C_BadFile : Addr) (C_Beyond : Addr) (C_TooLong : Addr) (C_BadImage : Addr) (C_BadSteps : Addr) (C_BadChoices : Addr) (C_TooFull : Addr) (C_BadNames : Addr) (C_BadPast : Addr) (C_BadCounts : Addr) (C_NoRow : Addr) (C_NoDesk : Addr) (C_NotOwn : Addr) (C_TooMany : Addr) (C_Cheated : Addr) (C_Busy : Addr) (C_NotOpen : Addr) (C_BadRoots : Addr) (C_Full : Addr) (C_BadTellings : Addr) (C_Never : Addr) (C_BadEvents : Addr) (C_BadRule : Addr) (C_BadLine : Addr) (C_NotBusy : Addr) (C_BadAnswer : Addr) (C_BadDay : Addr) (C_DayOver : Addr) (C_NoName : Addr) : ASp := fun ds S Q => ∃ v, ds = [v] ∧ ∀ as S', ExcAll v [C_BadValue, C_BadText, C_BadValues, C_BadDeed, C_BadPath, C_NoFile, C_BadDeeds, C_BadTree, C_BadName, C_BadNumber, C_BadSeal, C_OtherBody, C_NoBlock, C_BadRoot, C_BadKey, C_BadMap, C_NoKey, C_BadRows, C_BadFile, C_Beyond, C_TooLong, C_BadImage, C_BadSteps, C_BadChoices, C_TooFull, C_BadNames, C_BadPast, C_BadCounts, C_NoRow, C_NoDesk, C_NotOwn, C_TooMany, C_Cheated, C_Busy, C_NotOpen, C_BadRoots, C_Full, C_BadTellings, C_Never, C_BadEvents, C_BadRule, C_BadLine, C_NotBusy, C_BadAnswer, C_BadDay, C_DayOver, C_NoName] as S' → Sub S S' → Q (.lst (as.map .ref)) S'
set_option maxHeartbeats 4000000 in
theorem fn__law_made (T : Txt P w K mg C_HouseError f_HouseError C_BadValue C_BadText C_BadValues C_BadDeed C_BadPath C_NoFile C_BadDeeds C_BadTree C_BadName C_BadNumber C_BadSeal C_OtherBody C_NoBlock C_BadRoot C_BadKey C_BadMap C_NoKey C_BadRows C_BadFile C_Beyond C_TooLong C_BadImage C_BadSteps C_BadChoices C_TooFull C_BadNames C_BadPast C_BadCounts C_NoRow C_NoDesk C_NotOwn C_TooMany C_Cheated C_Busy C_NotOpen C_BadRoots C_Full C_BadTellings C_Never C_BadEvents C_BadRule C_BadLine C_NotBusy C_BadAnswer C_BadDay C_DayOver C_NoName) (F__law_made_too : Fn4 P w K mg base 2 "_law_made_too" ["value"] (sp__law_made_too C_NoKey C_BadRows C_BadFile C_Beyond C_TooLong C_BadImage C_BadSteps C_BadChoices C_TooFull C_BadNames C_BadPast C_BadCounts C_NoRow C_NoDesk C_NotOwn C_TooMany)) (F__law_made_more : Fn4 P w K mg base 2 "_law_made_more" ["value"] (sp__law_made_more C_Cheated C_Busy C_NotOpen C_BadRoots C_Full C_BadTellings C_Never C_BadEvents C_BadRule C_BadLine C_NotBusy C_BadAnswer C_BadDay C_DayOver C_NoName)) : FnX P w K mg base 3 "_law_made" st__law_made ["value"] (sp__law_made C_BadValue C_BadText C_BadValues C_BadDeed C_BadPath C_NoFile C_BadDeeds C_BadTree C_BadName C_BadNumber C_BadSeal C_OtherBody C_NoBlock C_BadRoot C_BadKey C_BadMap C_NoKey C_BadRows C_BadFile C_Beyond C_TooLong C_BadImage C_BadSteps C_BadChoices C_TooFull C_BadNames C_BadPast C_BadCounts C_NoRow C_NoDesk C_NotOwn C_TooMany C_Cheated C_Busy C_NotOpen C_BadRoots C_Full C_BadTellings C_Never C_BadEvents C_BadRule C_BadLine C_NotBusy C_BadAnswer C_BadDay C_DayOver C_NoName) := by
  refine FnX.of T.d__law_made fun f fd F => F.ok4 sc__law_made (fun ds S Q h => by unfold sp__law_made at h; first | (obtain ⟨_, rfl, _⟩ := h; rfl) | (obtain ⟨_, _, rfl, _⟩ := h; rfl) | (obtain ⟨_, _, _, rfl, _⟩ := h; rfl) | (obtain ⟨_, _, _, _, rfl, _⟩ := h; rfl) | (obtain ⟨_, _, _, _, _, rfl, _⟩ := h; rfl) | (obtain ⟨_, _, _, _, _, _, rfl, _⟩ := h; rfl) | (obtain ⟨_, _, _, _, _, _, _, rfl, _⟩ := h; rfl) | (repeat (first | (rcases h with ⟨rfl, _⟩; rfl) | (obtain ⟨_, h⟩ := h)))) fun cdv A gd out s H E hr => ?_
  refine ⟨_, (s_cons (s_set 1 sc__law_made.nd (e_lst (a_cons (e_mkE T.hi_HouseError T.ex_BadValue T.g_BadValue (hr.mono (by decide)) (e_var 0)) (a_cons (e_mkE T.hi_HouseError T.ex_BadText T.g_BadText (hr.mono (by decide)) (e_var 0)) (a_cons (e_mkE T.hi_HouseError T.ex_BadValues T.g_BadValues (hr.mono (by decide)) (e_var 0)) (a_cons (e_mkE T.hi_HouseError T.ex_BadDeed T.g_BadDeed (hr.mono (by decide)) (e_var 0)) (a_cons (e_mkE T.hi_HouseError T.ex_BadPath T.g_BadPath (hr.mono (by decide)) (e_var 0)) a_nil)))))))
    (s_cons (s_expr (e_bm PySem.F.plainAttrs_list PySem.F.slot_list_extend PySem.F.type_list_extend m_extend (e_var 1) (a_cons (e_lstV (a_cons (e_mkE T.hi_HouseError T.ex_NoFile T.g_NoFile (hr.mono (by decide)) (e_var 0)) (a_cons (e_mkE T.hi_HouseError T.ex_BadDeeds T.g_BadDeeds (hr.mono (by decide)) (e_var 0)) (a_cons (e_mkE T.hi_HouseError T.ex_BadTree T.g_BadTree (hr.mono (by decide)) (e_var 0)) (a_cons (e_mkE T.hi_HouseError T.ex_BadName T.g_BadName (hr.mono (by decide)) (e_var 0)) (a_cons (e_mkE T.hi_HouseError T.ex_BadNumber T.g_BadNumber (hr.mono (by decide)) (e_var 0)) a_nil)))))) a_nil)))
    (s_cons (s_expr (e_bm PySem.F.plainAttrs_list PySem.F.slot_list_extend PySem.F.type_list_extend m_extend (e_var 1) (a_cons (e_lstV (a_cons (e_mkE T.hi_HouseError T.ex_BadSeal T.g_BadSeal (hr.mono (by decide)) (e_var 0)) (a_cons (e_mkE T.hi_HouseError T.ex_OtherBody T.g_OtherBody (hr.mono (by decide)) (e_var 0)) (a_cons (e_mkE T.hi_HouseError T.ex_NoBlock T.g_NoBlock (hr.mono (by decide)) (e_var 0)) (a_cons (e_mkE T.hi_HouseError T.ex_BadRoot T.g_BadRoot (hr.mono (by decide)) (e_var 0)) (a_cons (e_mkE T.hi_HouseError T.ex_BadKey T.g_BadKey (hr.mono (by decide)) (e_var 0)) (a_cons (e_mkE T.hi_HouseError T.ex_BadMap T.g_BadMap (hr.mono (by decide)) (e_var 0)) a_nil))))))) a_nil)))
    (s_one (s_ret (e_op o_add (e_op o_add (e_var 1) (f_call F__law_made_too gd (hr.mono (by decide)) (a_cons (e_var 0) a_nil))) (f_call F__law_made_more gd (hr.mono (by decide)) (a_cons (e_var 0) a_nil)))))))), ?_⟩
  rintro _ S Q ⟨v, rfl, q⟩
  simp only [↓ite_bc, bc_t, bc_f, aFor_rng, lstA_lst, lstA_rol, aLcS_rng, eqA_ii, eqA_ss, neA_ii, neA_ss, updS_same, updS_updS, startA, List.map_cons, List.map_nil, List.cons_append, List.nil_append, List.length_cons, List.length_nil, Nat.zero_add, Nat.add_zero, Nat.reduceAdd, Nat.reduceSub, List.replicate_succ, List.replicate_zero, List.replicate,  aVar_z, aVar_s, aC, aNil, aCons, aTup, aLstV, aLst, aOp, aUn, aTru, aTst, aCmp, aChn, aChnT, aAnd, aOr, aNot, aIf, aAndV, aOrV, aNotV, aCB, aCall, aNext, aSeq, aBrk, aCnt, aRet, aRetN, aIfS, aNev,  agName, agNil, agCons, agTup, aAsg, aPar, aDrop, aCallK, aCallKn, aM, aM0, aAddS, aYes, one1, one2, wipeA, aRevT, aRevL, agSub_def, aSl, aPart, aNoPart, cutAns_rol, cutAns_lst, cutAns_tup, cutAns_str, aLstRg, aRg1, ex_some, tupleA_lst, tupleA_tup, wstA_lst,  List.set_cons_zero, List.set_cons_succ, List.set, ex_bl, ex_int, ex_str, ex_tup, ex_eq, ex_cons, ex_pair, ex_one1, ex_one_int, and_tt, truA_bl, truOk_bl, truA_int, truOk_int, truA_lst, truOk_lst, truA_tup, truOk_tup, truA_refU, truOk_refU, Bool.not_true, Bool.not_false,  addA_ii, addA_ss, addA_tt, addA_ll, intA_ii, int2A_ii, subA_ii, mulA_ii, modA_ii, fdivA_ii, powA_ii, negA_i, ltA_ii, leA_ii, gtA_ii, geA_ii, ltA_ss, leA_ss, gtA_ss, geA_ss, isA, isntA, nonA, isiA_non, isiA_bl, isiA_int, isiA_str, isiA_tup, isiA_lst, isiA_rol, lenA_str, lenA_tup, lenA_lst, lenA_rol, absA_i, toIntA_i, toIntA_b, isIntA, isiB, String.reduceBEq, List.contains_cons, List.contains_nil, Bool.or_true, Bool.true_or, Bool.or_false, Bool.false_or, Bool.and_true, Bool.true_and, Bool.and_false, Bool.false_and, Bool.not_eq_true, if_true, if_false, decide_true, decide_false, Bool.false_eq_true, eq_self, reduceCtorEq, true_and, false_and, and_false, badA, exists_false, aFld, aPut, agFld, aPutAug, aMeth, aMake, mulX_ii, mulX_si, mulX_li, strA_i, strA_s, intXA_i, intXA_b, isBA_bb, isntBA_bb, aPar3, ex_tri, inA_tup, inA_lst, ninA_tup, ninA_lst, shrA_ii, andA_ii, aFor_tup, aFor_lst, aFor_enum, aLcF_lst, aLcF_tup, aLcF_rng, aLcP_lst, aLcP_tup, aLcP_enum, aTryV, aRaise, aCallX, aMethX, aErr, aDct0, aStar, aCallKX, aIsE, aFor_enumT, aFor_zip, aLcP_enumT, aLcP_zip, mulT_ii, mulT_si, mulT_li, mulT_ti, aDGet, aDGet2, aDGet1, aDPut, aDIn, aDInT, aListS, aListZip, aDictZip, aDictP, aRepl, mIsAscii, mIsPrint, Option.isSome_none, Option.isSome_some, aLam, aMkE, aIsT, aErrT, aDispC, aMkE, aIsT, aErrT, aDispC, Int.cast_ofNat_Int, Int.reduceEq, Int.reduceLT, Int.reduceLE, Int.reduceNeg, Int.reduceAdd, Int.reduceSub]
  have W0 : Wk S [] S := ⟨.refl, fun _ h => by cases h⟩
  refine fun a1 h1 => ?_
  have W1 := W0.new (C := C_BadValue) (v := v) h1
  refine fun a2 h2 => ?_
  have W2 := W1.new (C := C_BadText) (v := v) h2
  refine fun a3 h3 => ?_
  have W3 := W2.new (C := C_BadValues) (v := v) h3
  refine fun a4 h4 => ?_
  have W4 := W3.new (C := C_BadDeed) (v := v) h4
  refine fun a5 h5 => ?_
  have W5 := W4.new (C := C_BadPath) (v := v) h5
  refine ⟨le_sl (by decide), fun l hl => ?_⟩
  have L0 := Wl.start (xs := [.ref a1, .ref a2, .ref a3, .ref a4, .ref a5]) W5 hl
  refine ⟨tyL L0.lst, ?_⟩
  refine fun a6 h6 => ?_
  have L6 := L0.new (C := C_NoFile) (v := v) h6
  refine fun a7 h7 => ?_
  have L7 := L6.new (C := C_BadDeeds) (v := v) h7
  refine fun a8 h8 => ?_
  have L8 := L7.new (C := C_BadTree) (v := v) h8
  refine fun a9 h9 => ?_
  have L9 := L8.new (C := C_BadName) (v := v) h9
  refine fun a10 h10 => ?_
  have L10 := L9.new (C := C_BadNumber) (v := v) h10
  refine ⟨le_sl (by decide), ?_⟩
  refine L10.ext (by simp) fun S1 M1 => ?_
  refine ⟨tyL M1.lst, ?_⟩
  refine fun a11 h11 => ?_
  have L11 := M1.new (C := C_BadSeal) (v := v) h11
  refine fun a12 h12 => ?_
  have L12 := L11.new (C := C_OtherBody) (v := v) h12
  refine fun a13 h13 => ?_
  have L13 := L12.new (C := C_NoBlock) (v := v) h13
  refine fun a14 h14 => ?_
  have L14 := L13.new (C := C_BadRoot) (v := v) h14
  refine fun a15 h15 => ?_
  have L15 := L14.new (C := C_BadKey) (v := v) h15
  refine fun a16 h16 => ?_
  have L16 := L15.new (C := C_BadMap) (v := v) h16
  refine ⟨le_sl (by decide), ?_⟩
  refine L16.ext (by simp) fun S2 M2 => ?_
  refine ⟨v, rfl, fun bs Sb eb sb => ?_⟩
  dsimp only
  rw [addA_rl (sb.le _ _ M2.lst)]
  dsimp only
  refine ⟨le_sl (by simp [eb.len]), v, rfl, fun cs Sc ec sc => ?_⟩
  simp only [↓ite_bc, bc_t, bc_f, aFor_rng, lstA_lst, lstA_rol, aLcS_rng, eqA_ii, eqA_ss, neA_ii, neA_ss, updS_same, updS_updS, startA, List.map_cons, List.map_nil, List.cons_append, List.nil_append, List.length_cons, List.length_nil, Nat.zero_add, Nat.add_zero, Nat.reduceAdd, Nat.reduceSub, List.replicate_succ, List.replicate_zero, List.replicate,  aVar_z, aVar_s, aC, aNil, aCons, aTup, aLstV, aLst, aOp, aUn, aTru, aTst, aCmp, aChn, aChnT, aAnd, aOr, aNot, aIf, aAndV, aOrV, aNotV, aCB, aCall, aNext, aSeq, aBrk, aCnt, aRet, aRetN, aIfS, aNev,  agName, agNil, agCons, agTup, aAsg, aPar, aDrop, aCallK, aCallKn, aM, aM0, aAddS, aYes, one1, one2, wipeA, aRevT, aRevL, agSub_def, aSl, aPart, aNoPart, cutAns_rol, cutAns_lst, cutAns_tup, cutAns_str, aLstRg, aRg1, ex_some, tupleA_lst, tupleA_tup, wstA_lst,  List.set_cons_zero, List.set_cons_succ, List.set, ex_bl, ex_int, ex_str, ex_tup, ex_eq, ex_cons, ex_pair, ex_one1, ex_one_int, and_tt, truA_bl, truOk_bl, truA_int, truOk_int, truA_lst, truOk_lst, truA_tup, truOk_tup, truA_refU, truOk_refU, Bool.not_true, Bool.not_false,  addA_ii, addA_ss, addA_tt, addA_ll, intA_ii, int2A_ii, subA_ii, mulA_ii, modA_ii, fdivA_ii, powA_ii, negA_i, ltA_ii, leA_ii, gtA_ii, geA_ii, ltA_ss, leA_ss, gtA_ss, geA_ss, isA, isntA, nonA, isiA_non, isiA_bl, isiA_int, isiA_str, isiA_tup, isiA_lst, isiA_rol, lenA_str, lenA_tup, lenA_lst, lenA_rol, absA_i, toIntA_i, toIntA_b, isIntA, isiB, String.reduceBEq, List.contains_cons, List.contains_nil, Bool.or_true, Bool.true_or, Bool.or_false, Bool.false_or, Bool.and_true, Bool.true_and, Bool.and_false, Bool.false_and, Bool.not_eq_true, if_true, if_false, decide_true, decide_false, Bool.false_eq_true, eq_self, reduceCtorEq, true_and, false_and, and_false, badA, exists_false, aFld, aPut, agFld, aPutAug, aMeth, aMake, mulX_ii, mulX_si, mulX_li, strA_i, strA_s, intXA_i, intXA_b, isBA_bb, isntBA_bb, aPar3, ex_tri, inA_tup, inA_lst, ninA_tup, ninA_lst, shrA_ii, andA_ii, aFor_tup, aFor_lst, aFor_enum, aLcF_lst, aLcF_tup, aLcF_rng, aLcP_lst, aLcP_tup, aLcP_enum, aTryV, aRaise, aCallX, aMethX, aErr, aDct0, aStar, aCallKX, aIsE, aFor_enumT, aFor_zip, aLcP_enumT, aLcP_zip, mulT_ii, mulT_si, mulT_li, mulT_ti, aDGet, aDGet2, aDGet1, aDPut, aDIn, aDInT, aListS, aListZip, aDictZip, aDictP, aRepl, mIsAscii, mIsPrint, Option.isSome_none, Option.isSome_some, aLam, aMkE, aIsT, aErrT, aDispC, aMkE, aIsT, aErrT, aDispC, Int.cast_ofNat_Int, Int.reduceEq, Int.reduceLT, Int.reduceLE, Int.reduceNeg, Int.reduceAdd, Int.reduceSub]
  refine ⟨le_sl (by simp [eb.len, ec.len]), ?_⟩
  have sx := sb.trans sc
  have e1 : ExcAll v [C_BadValue, C_BadText, C_BadValues, C_BadDeed, C_BadPath, C_NoFile, C_BadDeeds, C_BadTree, C_BadName, C_BadNumber, C_BadSeal, C_OtherBody, C_NoBlock, C_BadRoot, C_BadKey, C_BadMap] [a1, a2, a3, a4, a5, a6, a7, a8, a9, a10, a11, a12, a13, a14, a15, a16] Sc := ⟨sx.le _ _ (M2.all (a1, _) (by simp)), sx.le _ _ (M2.all (a2, _) (by simp)), sx.le _ _ (M2.all (a3, _) (by simp)), sx.le _ _ (M2.all (a4, _) (by simp)), sx.le _ _ (M2.all (a5, _) (by simp)), sx.le _ _ (M2.all (a6, _) (by simp)), sx.le _ _ (M2.all (a7, _) (by simp)), sx.le _ _ (M2.all (a8, _) (by simp)), sx.le _ _ (M2.all (a9, _) (by simp)), sx.le _ _ (M2.all (a10, _) (by simp)), sx.le _ _ (M2.all (a11, _) (by simp)), sx.le _ _ (M2.all (a12, _) (by simp)), sx.le _ _ (M2.all (a13, _) (by simp)), sx.le _ _ (M2.all (a14, _) (by simp)), sx.le _ _ (M2.all (a15, _) (by simp)), sx.le _ _ (M2.all (a16, _) (by simp)), trivial⟩
  have e2 := (e1.app (eb.up sc)).app ec
  have z := q _ Sc e2 (M2.sub.trans sx)
  rw [List.map_append, List.map_append] at z
  exact rt_same z
theorem ans_of {o : Prop} {v w : AV} (h : o) (e : v = w) : (⟨o, v⟩ : Ans) = ⟨True, w⟩ := by subst e; rw [eq_true h]
theorem okD_c {S : Store} {c : AV} (e : derefA S c = c) (f : flatA c = true) (h : SeqAt.shaped (toD c) = true) : okD S c := by
  unfold okD datA; rw [e]; exact ⟨f, h⟩
theorem eqv_c {S : Store} {c : AV} (e : derefA S c = c) (h : PyData.eqv (toD c) (toD c) = true) : PyData.eqv (datA S c) (datA S c) = true := by
  unfold datA; rw [e]; exact h
theorem odd_ne {S : Store} {x : AV} (h : OddV S x) : neAD x x S = ⟨True, .bl false⟩ := by
  rcases h with h | ⟨l, rfl, e⟩ | ⟨l, rfl, e⟩
  · simp only [oddPs, List.mem_cons, List.not_mem_nil, or_false] at h
    rcases h with rfl | rfl | rfl | rfl | rfl | rfl | rfl | rfl | rfl | rfl | rfl | rfl | rfl | rfl | rfl | rfl | rfl | rfl | rfl | rfl | rfl
    all_goals exact ans_of (by first | trivial | exact ⟨okD_c rfl (by rfl) (by decide +kernel), okD_c rfl (by rfl) (by decide +kernel)⟩) (by first | rfl | exact congrArg (fun b => AV.bl (!b)) (eqv_c rfl (by decide +kernel)))
  · simp only [neAD, e]
  · simp only [neAD, e]
theorem odd_repr {S : Store} {x : AV} (h : OddV S x) : ∃ z, reprD x S = ⟨True, .str z⟩ := by
  refine ⟨_, ans_of ?_ rfl⟩
  rcases h with h | ⟨l, rfl, e⟩ | ⟨l, rfl, e⟩
  · simp only [oddPs, List.mem_cons, List.not_mem_nil, or_false] at h
    rcases h with rfl | rfl | rfl | rfl | rfl | rfl | rfl | rfl | rfl | rfl | rfl | rfl | rfl | rfl | rfl | rfl | rfl | rfl | rfl | rfl | rfl
    all_goals exact ⟨_, dat_flat _ _ (by rfl), by rfl, .inl (by rfl), by decide +kernel, le_sl (by decide +kernel)⟩
  · refine ⟨.dict [], ?_, by rfl, .inr (by rfl), by decide +kernel, le_sl (by decide +kernel)⟩
    simp [datX, dat, refD, dats, keyD, e]
  · refine ⟨.dict [(.str "a", .int 1)], ?_, by rfl, .inr (by rfl), by decide +kernel, le_sl (by decide +kernel)⟩
    simp [datX, dat, refD, dats, keyD, e]
theorem OddV.up {S S' : Store} {x : AV} (h : OddV S x) (s : Sub S S') : OddV S' x := by
  rcases h with h | ⟨l, rfl, e⟩ | ⟨l, rfl, e⟩
  · exact .inl h
  · exact .inr (.inl ⟨l, rfl, s.le _ _ e⟩)
  · exact .inr (.inr ⟨l, rfl, s.le _ _ e⟩)
theorem ExcAll.get {v : AV} : ∀ {Cs as : List Addr} {S : Store} {j : Nat} {a : Addr}, ExcAll v Cs as S → as[j]? = some a → ∃ C, Cs[j]? = some C ∧ S a = some (.exc C v)
  | [], [], _, _, _, _, e => by simp at e
  | C :: _, _ :: _, _, 0, _, h, e => ⟨C, rfl, by simp at e; subst e; exact h.1⟩
  | _ :: _, _ :: _, _, j + 1, _, h, e => ExcAll.get (j := j) h.2 (by simpa using e)
theorem ne_s {z : Str} {S : Store} : neAD (.str z) (.str z) S = ⟨True, .bl false⟩ := by simp [neAD, neA]
theorem ne_i {z : Int} {S : Store} : neAD (.int z) (.int z) S = ⟨True, .bl false⟩ := by simp [neAD, neA]
theorem kinds_fl (C : Addr) (Cs : List Addr) : (Cs.map fun d => AV.bl (C == d)).all fl1 = true := by simp [fl1]
theorem kinds_idx {Cs : List Addr} {C : Addr} {j : Nat} (nd : Cs.Nodup) (h : Cs[j]? = some C) : (Cs.map fun d => AV.bl (C == d))[j]? = some (.bl true) ∧ ∀ (m : Nat) z, m < j → (Cs.map fun d => AV.bl (C == d))[m]? = some z → eq1 z (.bl true) = false := by
  refine ⟨by rw [List.getElem?_map, h]; simp, fun m z hm hz => ?_⟩
  rw [List.getElem?_map] at hz
  cases e : Cs[m]? with
  | none => rw [e] at hz; cases hz
  | some D =>
    rw [e] at hz
    cases hz
    have ne : C ≠ D := by
      rintro rfl
      obtain ⟨h1, e1⟩ := List.getElem?_eq_some_iff.mp h
      obtain ⟨h2, e2⟩ := List.getElem?_eq_some_iff.mp e
      have := (List.getElem_inj nd).mp (e1.trans e2.symm)
      omega
    simp [eq1, ne]
theorem kinds_cnt {Cs : List Addr} {C : Addr} (nd : Cs.Nodup) (h : C ∈ Cs) : (Cs.map fun d => AV.bl (C == d)).countP (fun z => eq1 z (.bl true)) = 1 := by
  rw [List.countP_map, ← nd.count (a := C) |>.trans (if_pos h), List.count]
  exact List.countP_congr fun d _ => by
    show ((C == d) == true) = true ↔ (d == C) = true
    simp only [beq_true, beq_iff_eq]
    exact eq_comm
theorem count_one {Cs : List Addr} {C : Addr} {S : Store} {Q : AK} (nd : Cs.Nodup) (h : C ∈ Cs) (q : Q (.int 1) S) : mCountF (.lst (Cs.map fun d => AV.bl (C == d))) [.bl true] S Q :=
  ⟨_, _, rfl, rfl, rfl, kinds_fl _ _, by rw [kinds_cnt nd h]; exact q⟩
theorem in_ok {S : Store} (C : Addr) (Cs : List Addr) : (inA (.bl true) (.lst (Cs.map fun d => AV.bl (C == d))) S).ok := ⟨rfl, kinds_fl C Cs⟩
theorem bc_ff {c : Bool} (h : c = false) {A B : Prop} (k : B) : bc c A B := by subst h; exact k
theorem okm {N M : Nat} {t : Pt} (h : okP N t) (e : N ≤ M) : okP M t := by
  unfold okP at *
  exact ⟨h.1, by omega⟩
theorem kinds_no {Cs : List Addr} {C : Addr} (h : C ∉ Cs) : ((Cs.map fun d => AV.bl (C == d)).any fun y => eq1 y (.bl true)) = false := by
  rw [List.any_map, List.any_eq_false]
  intro d hd
  have : C ≠ d := by rintro rfl; exact h hd
  simp [eq1, this]
def sp__law_right (C_HouseError : Addr) (f_HouseError : Addr) (C_BadValue : Addr) (C_BadText : Addr) (C_BadValues : Addr) (C_BadDeed : Addr) (C_BadPath : Addr) (C_NoFile : Addr) (C_BadDeeds : Addr) (C_BadTree : Addr) (C_BadName : Addr) (C_BadNumber : Addr) (C_BadSeal : Addr) (C_OtherBody : Addr) (C_NoBlock : Addr) (C_BadRoot : Addr) (C_BadKey : Addr) (C_BadMap : Addr) (C_NoKey : Addr) (C_BadRows : Addr) (C_BadFile : Addr) (C_Beyond : Addr) (C_TooLong : Addr) (C_BadImage : Addr) (C_BadSteps : Addr) (C_BadChoices : Addr) (C_TooFull : Addr) (C_BadNames : Addr) (C_BadPast : Addr) (C_BadCounts : Addr) (C_NoRow : Addr) (C_NoDesk : Addr) (C_NotOwn : Addr) (C_TooMany : Addr) (C_Cheated : Addr) (C_Busy : Addr) (C_NotOpen : Addr) (C_BadRoots : Addr) (C_Full : Addr) (C_BadTellings : Addr) (C_Never : Addr) (C_BadEvents : Addr) (C_BadRule : Addr) (C_BadLine : Addr) (C_NotBusy : Addr) (C_BadAnswer : Addr) (C_BadDay : Addr) (C_DayOver : Addr) (C_NoName : Addr) : ASp := fun ds S Q => ∃ (p : Addr) (t : Pt), ds = [.ref p] ∧ S p = some (potO t) ∧ okP 0 t ∧ ∀ S', Q (.bl true) S'
set_option maxHeartbeats 4000000 in
theorem fn__law_right (T : Txt P w K mg C_HouseError f_HouseError C_BadValue C_BadText C_BadValues C_BadDeed C_BadPath C_NoFile C_BadDeeds C_BadTree C_BadName C_BadNumber C_BadSeal C_OtherBody C_NoBlock C_BadRoot C_BadKey C_BadMap C_NoKey C_BadRows C_BadFile C_Beyond C_TooLong C_BadImage C_BadSteps C_BadChoices C_TooFull C_BadNames C_BadPast C_BadCounts C_NoRow C_NoDesk C_NotOwn C_TooMany C_Cheated C_Busy C_NotOpen C_BadRoots C_Full C_BadTellings C_Never C_BadEvents C_BadRule C_BadLine C_NotBusy C_BadAnswer C_BadDay C_DayOver C_NoName) (F__law_odd : Fn4 P w K mg base 3 "_law_odd" ["pot"] sp__law_odd) (F__law_made : Fn4 P w K mg base 3 "_law_made" ["value"] (sp__law_made C_BadValue C_BadText C_BadValues C_BadDeed C_BadPath C_NoFile C_BadDeeds C_BadTree C_BadName C_BadNumber C_BadSeal C_OtherBody C_NoBlock C_BadRoot C_BadKey C_BadMap C_NoKey C_BadRows C_BadFile C_Beyond C_TooLong C_BadImage C_BadSteps C_BadChoices C_TooFull C_BadNames C_BadPast C_BadCounts C_NoRow C_NoDesk C_NotOwn C_TooMany C_Cheated C_Busy C_NotOpen C_BadRoots C_Full C_BadTellings C_Never C_BadEvents C_BadRule C_BadLine C_NotBusy C_BadAnswer C_BadDay C_DayOver C_NoName)) (F__law_kinds : Fn4 P w K mg base 2 "_law_kinds" ["error"] (sp__law_kinds C_HouseError f_HouseError C_BadValue C_BadText C_BadValues C_BadDeed C_BadPath C_NoFile C_BadDeeds C_BadTree C_BadName C_BadNumber C_BadSeal C_OtherBody C_NoBlock C_BadRoot C_BadKey C_BadMap C_NoKey C_BadRows C_BadFile C_Beyond C_TooLong C_BadImage C_BadSteps C_BadChoices C_TooFull C_BadNames C_BadPast C_BadCounts C_NoRow C_NoDesk C_NotOwn C_TooMany C_Cheated C_Busy C_NotOpen C_BadRoots C_Full C_BadTellings C_Never C_BadEvents C_BadRule C_BadLine C_NotBusy C_BadAnswer C_BadDay C_DayOver C_NoName)) : FnX P w K mg base 4 "_law_right" st__law_right ["pot"] (sp__law_right C_HouseError f_HouseError C_BadValue C_BadText C_BadValues C_BadDeed C_BadPath C_NoFile C_BadDeeds C_BadTree C_BadName C_BadNumber C_BadSeal C_OtherBody C_NoBlock C_BadRoot C_BadKey C_BadMap C_NoKey C_BadRows C_BadFile C_Beyond C_TooLong C_BadImage C_BadSteps C_BadChoices C_TooFull C_BadNames C_BadPast C_BadCounts C_NoRow C_NoDesk C_NotOwn C_TooMany C_Cheated C_Busy C_NotOpen C_BadRoots C_Full C_BadTellings C_Never C_BadEvents C_BadRule C_BadLine C_NotBusy C_BadAnswer C_BadDay C_DayOver C_NoName) := by
  refine FnX.of T.d__law_right fun f fd F => F.ok4 sc__law_right (fun ds S Q h => by unfold sp__law_right at h; first | (obtain ⟨_, rfl, _⟩ := h; rfl) | (obtain ⟨_, _, rfl, _⟩ := h; rfl) | (obtain ⟨_, _, _, rfl, _⟩ := h; rfl) | (obtain ⟨_, _, _, _, rfl, _⟩ := h; rfl) | (obtain ⟨_, _, _, _, _, rfl, _⟩ := h; rfl) | (obtain ⟨_, _, _, _, _, _, rfl, _⟩ := h; rfl) | (obtain ⟨_, _, _, _, _, _, _, rfl, _⟩ := h; rfl) | (repeat (first | (rcases h with ⟨rfl, _⟩; rfl) | (obtain ⟨_, h⟩ := h)))) fun cdv A gd out s H E hr => ?_
  refine ⟨_, (s_cons (s_for PassesOwn.never rfl (i_rng1 T.n_range (a_cons e_int a_nil)) (g_name 1 sc__law_right.nd) (s_cons (s_set 2 sc__law_right.nd (f_call F__law_odd gd (hr.mono (by decide)) (a_cons (e_var 0) a_nil)))
    (s_cons (s_par (i := 3) (j := 4) rfl sc__law_right.nd (a_cons (f_call F__law_made gd (hr.mono (by decide)) (a_cons (e_var 2) a_nil)) (a_cons (e_mkE T.hi_HouseError T.ex_HouseError T.g_HouseError (hr.mono (by decide)) (e_var 2)) a_nil)))
    (s_cons (s_for PassesOwn.never rfl (i_enum T.n_enumerate (a_cons (e_var 3) a_nil)) (g_tup rfl (gs_cons (g_name 5 sc__law_right.nd) (gs_cons (g_name 6 sc__law_right.nd) gs_nil))) (s_cons (s_if (w_or (t_cmp (o_neD hr.units) (e_errT (e_var 6)) (e_var 2)) (w_or (t_cmp (o_neD hr.units) (e_cb (c_reprD gd hr.units) T.n_repr (by decide +kernel) (a_cons (e_errT (e_var 6)) a_nil)) (e_cb (c_reprD gd hr.units) T.n_repr (by decide +kernel) (a_cons (e_var 2) a_nil))) (w_or1 (t_cmp (o_neD hr.units) (e_bm PySem.F.plainAttrs_list PySem.F.slot_list_index PySem.F.type_list_index m_index (f_call F__law_kinds gd (hr.mono (by decide)) (a_cons (e_var 6) a_nil)) (a_cons e_bl a_nil)) (e_var 5))))).pt (s_one (s_ret e_bl)) s_nil)
    (s_cons (s_if (w_or (t_cmp (o_neD hr.units) (e_bm PySem.F.plainAttrs_list PySem.F.slot_list_count PySem.F.type_list_count m_countF (f_call F__law_kinds gd (hr.mono (by decide)) (a_cons (e_var 6) a_nil)) (a_cons e_bl a_nil)) e_int) (w_or1 (t_not (t_tru (e_isT T.n_isinstance (a_cons (e_var 6) (a_cons (e_gC T.g_HouseError) a_nil))))))).pt (s_one (s_ret e_bl)) s_nil)
    (s_one (s_if (t_not (t_tru (e_isT T.n_isinstance (a_cons (e_var 6) (a_cons (e_bty (n := "ValueError") T.n_ValueError (by decide +kernel)) a_nil))))) (s_one (s_ret e_bl)) s_nil)))))
    (s_one (s_if (w_or (t_cmp (o_neD hr.units) (e_cb (c_reprD gd hr.units) T.n_repr (by decide +kernel) (a_cons (e_errT (e_var 4)) a_nil)) (e_cb (c_reprD gd hr.units) T.n_repr (by decide +kernel) (a_cons (e_var 2) a_nil))) (w_or (t_cmp o_in e_bl (f_call F__law_kinds gd (hr.mono (by decide)) (a_cons (e_var 4) a_nil))) (w_or1 (t_not (t_tru (e_isT T.n_isinstance (a_cons (e_var 4) (a_cons (e_bty (n := "ValueError") T.n_ValueError (by decide +kernel)) a_nil)))))))).pt (s_one (s_ret e_bl)) s_nil))))))
    (s_one (s_ret e_bl))), ?_⟩
  rintro _ S Q ⟨p, t, rfl, hp, ok, q⟩
  simp only [↓ite_bc, bc_t, bc_f, aFor_rng, lstA_lst, lstA_rol, aLcS_rng, eqA_ii, eqA_ss, neA_ii, neA_ss, updS_same, updS_updS, startA, List.map_cons, List.map_nil, List.cons_append, List.nil_append, List.length_cons, List.length_nil, Nat.zero_add, Nat.add_zero, Nat.reduceAdd, Nat.reduceSub, List.replicate_succ, List.replicate_zero, List.replicate,  aVar_z, aVar_s, aC, aNil, aCons, aTup, aLstV, aLst, aOp, aUn, aTru, aTst, aCmp, aChn, aChnT, aAnd, aOr, aNot, aIf, aAndV, aOrV, aNotV, aCB, aCall, aNext, aSeq, aBrk, aCnt, aRet, aRetN, aIfS, aNev,  agName, agNil, agCons, agTup, aAsg, aPar, aDrop, aCallK, aCallKn, aM, aM0, aAddS, aYes, one1, one2, wipeA, aRevT, aRevL, agSub_def, aSl, aPart, aNoPart, cutAns_rol, cutAns_lst, cutAns_tup, cutAns_str, aLstRg, aRg1, ex_some, tupleA_lst, tupleA_tup, wstA_lst,  List.set_cons_zero, List.set_cons_succ, List.set, ex_bl, ex_int, ex_str, ex_tup, ex_eq, ex_cons, ex_pair, ex_one1, ex_one_int, and_tt, truA_bl, truOk_bl, truA_int, truOk_int, truA_lst, truOk_lst, truA_tup, truOk_tup, truA_refU, truOk_refU, Bool.not_true, Bool.not_false,  addA_ii, addA_ss, addA_tt, addA_ll, intA_ii, int2A_ii, subA_ii, mulA_ii, modA_ii, fdivA_ii, powA_ii, negA_i, ltA_ii, leA_ii, gtA_ii, geA_ii, ltA_ss, leA_ss, gtA_ss, geA_ss, isA, isntA, nonA, isiA_non, isiA_bl, isiA_int, isiA_str, isiA_tup, isiA_lst, isiA_rol, lenA_str, lenA_tup, lenA_lst, lenA_rol, absA_i, toIntA_i, toIntA_b, isIntA, isiB, String.reduceBEq, List.contains_cons, List.contains_nil, Bool.or_true, Bool.true_or, Bool.or_false, Bool.false_or, Bool.and_true, Bool.true_and, Bool.and_false, Bool.false_and, Bool.not_eq_true, if_true, if_false, decide_true, decide_false, Bool.false_eq_true, eq_self, reduceCtorEq, true_and, false_and, and_false, badA, exists_false, aFld, aPut, agFld, aPutAug, aMeth, aMake, mulX_ii, mulX_si, mulX_li, strA_i, strA_s, intXA_i, intXA_b, isBA_bb, isntBA_bb, aPar3, ex_tri, inA_tup, inA_lst, ninA_tup, ninA_lst, shrA_ii, andA_ii, aFor_tup, aFor_lst, aFor_enum, aLcF_lst, aLcF_tup, aLcF_rng, aLcP_lst, aLcP_tup, aLcP_enum, aTryV, aRaise, aCallX, aMethX, aErr, aDct0, aStar, aCallKX, aIsE, aFor_enumT, aFor_zip, aLcP_enumT, aLcP_zip, mulT_ii, mulT_si, mulT_li, mulT_ti, aDGet, aDGet2, aDGet1, aDPut, aDIn, aDInT, aListS, aListZip, aDictZip, aDictP, aRepl, mIsAscii, mIsPrint, Option.isSome_none, Option.isSome_some, aLam, aMkE, aIsT, aErrT, aDispC, aMkE, aIsT, aErrT, aDispC, Int.cast_ofNat_Int, Int.reduceEq, Int.reduceLT, Int.reduceLE, Int.reduceNeg, Int.reduceAdd, Int.reduceSub]
  refine ⟨by omega, by omega, ?_⟩
  refine ForGo.of (fun i τ S' => ∃ (o1 o2 o3 o4 o5 o6 : Option AV) (pt : Pt), τ = [some (.ref p), o1, o2, o3, o4, o5, o6] ∧ S' p = some (potO pt) ∧ okP (10 * i) pt) ⟨none, none, none, none, none, none, t, rfl, hp, ok⟩
    (fun i x τ2 S2 hx hi ⟨o1, o2, o3, o4, o5, o6, pt, eτ, hp2, okt⟩ => ?_) (fun τ2 S2 ⟨o1, o2, o3, o4, o5, o6, pt, eτ, hp2, okt⟩ => ?_)
  · subst eτ
    have hi : i < 3 := hi
    simp only [↓ite_bc, bc_t, bc_f, aFor_rng, lstA_lst, lstA_rol, aLcS_rng, eqA_ii, eqA_ss, neA_ii, neA_ss, updS_same, updS_updS, startA, List.map_cons, List.map_nil, List.cons_append, List.nil_append, List.length_cons, List.length_nil, Nat.zero_add, Nat.add_zero, Nat.reduceAdd, Nat.reduceSub, List.replicate_succ, List.replicate_zero, List.replicate,  aVar_z, aVar_s, aC, aNil, aCons, aTup, aLstV, aLst, aOp, aUn, aTru, aTst, aCmp, aChn, aChnT, aAnd, aOr, aNot, aIf, aAndV, aOrV, aNotV, aCB, aCall, aNext, aSeq, aBrk, aCnt, aRet, aRetN, aIfS, aNev,  agName, agNil, agCons, agTup, aAsg, aPar, aDrop, aCallK, aCallKn, aM, aM0, aAddS, aYes, one1, one2, wipeA, aRevT, aRevL, agSub_def, aSl, aPart, aNoPart, cutAns_rol, cutAns_lst, cutAns_tup, cutAns_str, aLstRg, aRg1, ex_some, tupleA_lst, tupleA_tup, wstA_lst,  List.set_cons_zero, List.set_cons_succ, List.set, ex_bl, ex_int, ex_str, ex_tup, ex_eq, ex_cons, ex_pair, ex_one1, ex_one_int, and_tt, truA_bl, truOk_bl, truA_int, truOk_int, truA_lst, truOk_lst, truA_tup, truOk_tup, truA_refU, truOk_refU, Bool.not_true, Bool.not_false,  addA_ii, addA_ss, addA_tt, addA_ll, intA_ii, int2A_ii, subA_ii, mulA_ii, modA_ii, fdivA_ii, powA_ii, negA_i, ltA_ii, leA_ii, gtA_ii, geA_ii, ltA_ss, leA_ss, gtA_ss, geA_ss, isA, isntA, nonA, isiA_non, isiA_bl, isiA_int, isiA_str, isiA_tup, isiA_lst, isiA_rol, lenA_str, lenA_tup, lenA_lst, lenA_rol, absA_i, toIntA_i, toIntA_b, isIntA, isiB, String.reduceBEq, List.contains_cons, List.contains_nil, Bool.or_true, Bool.true_or, Bool.or_false, Bool.false_or, Bool.and_true, Bool.true_and, Bool.and_false, Bool.false_and, Bool.not_eq_true, if_true, if_false, decide_true, decide_false, Bool.false_eq_true, eq_self, reduceCtorEq, true_and, false_and, and_false, badA, exists_false, aFld, aPut, agFld, aPutAug, aMeth, aMake, mulX_ii, mulX_si, mulX_li, strA_i, strA_s, intXA_i, intXA_b, isBA_bb, isntBA_bb, aPar3, ex_tri, inA_tup, inA_lst, ninA_tup, ninA_lst, shrA_ii, andA_ii, aFor_tup, aFor_lst, aFor_enum, aLcF_lst, aLcF_tup, aLcF_rng, aLcP_lst, aLcP_tup, aLcP_enum, aTryV, aRaise, aCallX, aMethX, aErr, aDct0, aStar, aCallKX, aIsE, aFor_enumT, aFor_zip, aLcP_enumT, aLcP_zip, mulT_ii, mulT_si, mulT_li, mulT_ti, aDGet, aDGet2, aDGet1, aDPut, aDIn, aDInT, aListS, aListZip, aDictZip, aDictP, aRepl, mIsAscii, mIsPrint, Option.isSome_none, Option.isSome_some, aLam, aMkE, aIsT, aErrT, aDispC, aMkE, aIsT, aErrT, aDispC, Int.cast_ofNat_Int, Int.reduceEq, Int.reduceLT, Int.reduceLE, Int.reduceNeg, Int.reduceAdd, Int.reduceSub]
    refine ⟨p, pt, _, rfl, hp2, okt, by omega, fun t' v S3 ok' hp3 hv => ?_⟩
    refine ⟨v, rfl, fun as S4 ea s4 => fun b hb => ?_⟩
    have hv5 := (hv.up s4)
    have s5 : Sub S4 (updS S4 b (.exc C_HouseError v)) := Sub.new .refl hb (by rw [hb]; simp) (by simp)
    have hb5 : updS S4 b (AO.exc C_HouseError v) b = some (.exc C_HouseError v) := updS_same
    have hp5 := s5.le _ _ (s4.le _ _ hp3)
    have ea5 := ea.up s5
    have hv6 := hv5.up s5
    have hHE : C_HouseError ∈ excL C_HouseError f_HouseError C_BadValue C_BadText C_BadValues C_BadDeed C_BadPath C_NoFile C_BadDeeds C_BadTree C_BadName C_BadNumber C_BadSeal C_OtherBody C_NoBlock C_BadRoot C_BadKey C_BadMap C_NoKey C_BadRows C_BadFile C_Beyond C_TooLong C_BadImage C_BadSteps C_BadChoices C_TooFull C_BadNames C_BadPast C_BadCounts C_NoRow C_NoDesk C_NotOwn C_TooMany C_Cheated C_Busy C_NotOpen C_BadRoots C_Full C_BadTellings C_Never C_BadEvents C_BadRule C_BadLine C_NotBusy C_BadAnswer C_BadDay C_DayOver C_NoName := List.mem_cons_self
    generalize updS S4 b (AO.exc C_HouseError v) = S5 at hb5 hp5 ea5 hv6 ⊢
    obtain ⟨rz, er⟩ := odd_repr hv6
    have en := odd_ne hv6
    refine ⟨_, _, rfl, rfl, ?_⟩
    refine ForGoL.of (fun j τ S' => S' = S5 ∧ ∃ o5 o6, τ = [some (.ref p), some x, some v, some (.lst (as.map .ref)), some (.ref b), o5, o6]) ⟨rfl, _, _, rfl⟩ (fun j y τ3 S6 hy hj ⟨eS, o5', o6', eτ3⟩ => ?_) (fun τ3 S6 ⟨eS, o5', o6', eτ3⟩ => ?_)
    · subst eτ3
      obtain rfl : S6 = S5 := eS
      refine ⟨rfl, ?_⟩
      obtain ⟨y2, hy2, rfl⟩ := enumA_get hy
      rw [List.getElem?_map] at hy2
      cases z : as[j]? with
      | none => rw [z] at hy2; cases hy2
      | some a =>
        rw [z] at hy2
        cases hy2
        obtain ⟨C, hC, ha⟩ := ea5.get z
        have hC0 : C ∈ excL0 C_HouseError f_HouseError C_BadValue C_BadText C_BadValues C_BadDeed C_BadPath C_NoFile C_BadDeeds C_BadTree C_BadName C_BadNumber C_BadSeal C_OtherBody C_NoBlock C_BadRoot C_BadKey C_BadMap C_NoKey C_BadRows C_BadFile C_Beyond C_TooLong C_BadImage C_BadSteps C_BadChoices C_TooFull C_BadNames C_BadPast C_BadCounts C_NoRow C_NoDesk C_NotOwn C_TooMany C_Cheated C_Busy C_NotOpen C_BadRoots C_Full C_BadTellings C_Never C_BadEvents C_BadRule C_BadLine C_NotBusy C_BadAnswer C_BadDay C_DayOver C_NoName := List.mem_of_getElem? hC
        have hC1 : C ∈ excL C_HouseError f_HouseError C_BadValue C_BadText C_BadValues C_BadDeed C_BadPath C_NoFile C_BadDeeds C_BadTree C_BadName C_BadNumber C_BadSeal C_OtherBody C_NoBlock C_BadRoot C_BadKey C_BadMap C_NoKey C_BadRows C_BadFile C_Beyond C_TooLong C_BadImage C_BadSteps C_BadChoices C_TooFull C_BadNames C_BadPast C_BadCounts C_NoRow C_NoDesk C_NotOwn C_TooMany C_Cheated C_Busy C_NotOpen C_BadRoots C_Full C_BadTellings C_Never C_BadEvents C_BadRule C_BadLine C_NotBusy C_BadAnswer C_BadDay C_DayOver C_NoName := List.mem_cons_of_mem _ hC0
        have xv := exc_fact T hC1
        have he := beq_iff_eq.mp (List.all_eq_true.mp T.khe C hC1)
        have hve := beq_iff_eq.mp (List.all_eq_true.mp T.kval C hC1)
        have ki := kinds_idx T.knd hC
        have kc := kinds_cnt T.knd hC0
        simp only [↓ite_bc, bc_t, bc_f, aFor_rng, lstA_lst, lstA_rol, aLcS_rng, eqA_ii, eqA_ss, neA_ii, neA_ss, updS_same, updS_updS, startA, List.map_cons, List.map_nil, List.cons_append, List.nil_append, List.length_cons, List.length_nil, Nat.zero_add, Nat.add_zero, Nat.reduceAdd, Nat.reduceSub, List.replicate_succ, List.replicate_zero, List.replicate,  aVar_z, aVar_s, aC, aNil, aCons, aTup, aLstV, aLst, aOp, aUn, aTru, aTst, aCmp, aChn, aChnT, aAnd, aOr, aNot, aIf, aAndV, aOrV, aNotV, aCB, aCall, aNext, aSeq, aBrk, aCnt, aRet, aRetN, aIfS, aNev,  agName, agNil, agCons, agTup, aAsg, aPar, aDrop, aCallK, aCallKn, aM, aM0, aAddS, aYes, one1, one2, wipeA, aRevT, aRevL, agSub_def, aSl, aPart, aNoPart, cutAns_rol, cutAns_lst, cutAns_tup, cutAns_str, aLstRg, aRg1, ex_some, tupleA_lst, tupleA_tup, wstA_lst,  List.set_cons_zero, List.set_cons_succ, List.set, ex_bl, ex_int, ex_str, ex_tup, ex_eq, ex_cons, ex_pair, ex_one1, ex_one_int, and_tt, truA_bl, truOk_bl, truA_int, truOk_int, truA_lst, truOk_lst, truA_tup, truOk_tup, truA_refU, truOk_refU, Bool.not_true, Bool.not_false,  addA_ii, addA_ss, addA_tt, addA_ll, intA_ii, int2A_ii, subA_ii, mulA_ii, modA_ii, fdivA_ii, powA_ii, negA_i, ltA_ii, leA_ii, gtA_ii, geA_ii, ltA_ss, leA_ss, gtA_ss, geA_ss, isA, isntA, nonA, isiA_non, isiA_bl, isiA_int, isiA_str, isiA_tup, isiA_lst, isiA_rol, lenA_str, lenA_tup, lenA_lst, lenA_rol, absA_i, toIntA_i, toIntA_b, isIntA, isiB, String.reduceBEq, List.contains_cons, List.contains_nil, Bool.or_true, Bool.true_or, Bool.or_false, Bool.false_or, Bool.and_true, Bool.true_and, Bool.and_false, Bool.false_and, Bool.not_eq_true, if_true, if_false, decide_true, decide_false, Bool.false_eq_true, eq_self, reduceCtorEq, true_and, false_and, and_false, badA, exists_false, aFld, aPut, agFld, aPutAug, aMeth, aMake, mulX_ii, mulX_si, mulX_li, strA_i, strA_s, intXA_i, intXA_b, isBA_bb, isntBA_bb, aPar3, ex_tri, inA_tup, inA_lst, ninA_tup, ninA_lst, shrA_ii, andA_ii, aFor_tup, aFor_lst, aFor_enum, aLcF_lst, aLcF_tup, aLcF_rng, aLcP_lst, aLcP_tup, aLcP_enum, aTryV, aRaise, aCallX, aMethX, aErr, aDct0, aStar, aCallKX, aIsE, aFor_enumT, aFor_zip, aLcP_enumT, aLcP_zip, mulT_ii, mulT_si, mulT_li, mulT_ti, aDGet, aDGet2, aDGet1, aDPut, aDIn, aDInT, aListS, aListZip, aDictZip, aDictP, aRepl, mIsAscii, mIsPrint, Option.isSome_none, Option.isSome_some, aLam, aMkE, aIsT, aErrT, aDispC, aMkE, aIsT, aErrT, aDispC, Int.cast_ofNat_Int, Int.reduceEq, Int.reduceLT, Int.reduceLE, Int.reduceNeg, Int.reduceAdd, Int.reduceSub]
        refine ⟨rfl, a, C, v, rfl, ha, xv, ?_⟩
        simp only [en]
        simp only [↓ite_bc, bc_t, bc_f, aFor_rng, lstA_lst, lstA_rol, aLcS_rng, eqA_ii, eqA_ss, neA_ii, neA_ss, updS_same, updS_updS, startA, List.map_cons, List.map_nil, List.cons_append, List.nil_append, List.length_cons, List.length_nil, Nat.zero_add, Nat.add_zero, Nat.reduceAdd, Nat.reduceSub, List.replicate_succ, List.replicate_zero, List.replicate,  aVar_z, aVar_s, aC, aNil, aCons, aTup, aLstV, aLst, aOp, aUn, aTru, aTst, aCmp, aChn, aChnT, aAnd, aOr, aNot, aIf, aAndV, aOrV, aNotV, aCB, aCall, aNext, aSeq, aBrk, aCnt, aRet, aRetN, aIfS, aNev,  agName, agNil, agCons, agTup, aAsg, aPar, aDrop, aCallK, aCallKn, aM, aM0, aAddS, aYes, one1, one2, wipeA, aRevT, aRevL, agSub_def, aSl, aPart, aNoPart, cutAns_rol, cutAns_lst, cutAns_tup, cutAns_str, aLstRg, aRg1, ex_some, tupleA_lst, tupleA_tup, wstA_lst,  List.set_cons_zero, List.set_cons_succ, List.set, ex_bl, ex_int, ex_str, ex_tup, ex_eq, ex_cons, ex_pair, ex_one1, ex_one_int, and_tt, truA_bl, truOk_bl, truA_int, truOk_int, truA_lst, truOk_lst, truA_tup, truOk_tup, truA_refU, truOk_refU, Bool.not_true, Bool.not_false,  addA_ii, addA_ss, addA_tt, addA_ll, intA_ii, int2A_ii, subA_ii, mulA_ii, modA_ii, fdivA_ii, powA_ii, negA_i, ltA_ii, leA_ii, gtA_ii, geA_ii, ltA_ss, leA_ss, gtA_ss, geA_ss, isA, isntA, nonA, isiA_non, isiA_bl, isiA_int, isiA_str, isiA_tup, isiA_lst, isiA_rol, lenA_str, lenA_tup, lenA_lst, lenA_rol, absA_i, toIntA_i, toIntA_b, isIntA, isiB, String.reduceBEq, List.contains_cons, List.contains_nil, Bool.or_true, Bool.true_or, Bool.or_false, Bool.false_or, Bool.and_true, Bool.true_and, Bool.and_false, Bool.false_and, Bool.not_eq_true, if_true, if_false, decide_true, decide_false, Bool.false_eq_true, eq_self, reduceCtorEq, true_and, false_and, and_false, badA, exists_false, aFld, aPut, agFld, aPutAug, aMeth, aMake, mulX_ii, mulX_si, mulX_li, strA_i, strA_s, intXA_i, intXA_b, isBA_bb, isntBA_bb, aPar3, ex_tri, inA_tup, inA_lst, ninA_tup, ninA_lst, shrA_ii, andA_ii, aFor_tup, aFor_lst, aFor_enum, aLcF_lst, aLcF_tup, aLcF_rng, aLcP_lst, aLcP_tup, aLcP_enum, aTryV, aRaise, aCallX, aMethX, aErr, aDct0, aStar, aCallKX, aIsE, aFor_enumT, aFor_zip, aLcP_enumT, aLcP_zip, mulT_ii, mulT_si, mulT_li, mulT_ti, aDGet, aDGet2, aDGet1, aDPut, aDIn, aDInT, aListS, aListZip, aDictZip, aDictP, aRepl, mIsAscii, mIsPrint, Option.isSome_none, Option.isSome_some, aLam, aMkE, aIsT, aErrT, aDispC, aMkE, aIsT, aErrT, aDispC, Int.cast_ofNat_Int, Int.reduceEq, Int.reduceLT, Int.reduceLE, Int.reduceNeg, Int.reduceAdd, Int.reduceSub]
        refine ⟨a, C, v, rfl, ha, xv, ?_⟩
        simp only [er, ne_s]
        simp only [↓ite_bc, bc_t, bc_f, aFor_rng, lstA_lst, lstA_rol, aLcS_rng, eqA_ii, eqA_ss, neA_ii, neA_ss, updS_same, updS_updS, startA, List.map_cons, List.map_nil, List.cons_append, List.nil_append, List.length_cons, List.length_nil, Nat.zero_add, Nat.add_zero, Nat.reduceAdd, Nat.reduceSub, List.replicate_succ, List.replicate_zero, List.replicate,  aVar_z, aVar_s, aC, aNil, aCons, aTup, aLstV, aLst, aOp, aUn, aTru, aTst, aCmp, aChn, aChnT, aAnd, aOr, aNot, aIf, aAndV, aOrV, aNotV, aCB, aCall, aNext, aSeq, aBrk, aCnt, aRet, aRetN, aIfS, aNev,  agName, agNil, agCons, agTup, aAsg, aPar, aDrop, aCallK, aCallKn, aM, aM0, aAddS, aYes, one1, one2, wipeA, aRevT, aRevL, agSub_def, aSl, aPart, aNoPart, cutAns_rol, cutAns_lst, cutAns_tup, cutAns_str, aLstRg, aRg1, ex_some, tupleA_lst, tupleA_tup, wstA_lst,  List.set_cons_zero, List.set_cons_succ, List.set, ex_bl, ex_int, ex_str, ex_tup, ex_eq, ex_cons, ex_pair, ex_one1, ex_one_int, and_tt, truA_bl, truOk_bl, truA_int, truOk_int, truA_lst, truOk_lst, truA_tup, truOk_tup, truA_refU, truOk_refU, Bool.not_true, Bool.not_false,  addA_ii, addA_ss, addA_tt, addA_ll, intA_ii, int2A_ii, subA_ii, mulA_ii, modA_ii, fdivA_ii, powA_ii, negA_i, ltA_ii, leA_ii, gtA_ii, geA_ii, ltA_ss, leA_ss, gtA_ss, geA_ss, isA, isntA, nonA, isiA_non, isiA_bl, isiA_int, isiA_str, isiA_tup, isiA_lst, isiA_rol, lenA_str, lenA_tup, lenA_lst, lenA_rol, absA_i, toIntA_i, toIntA_b, isIntA, isiB, String.reduceBEq, List.contains_cons, List.contains_nil, Bool.or_true, Bool.true_or, Bool.or_false, Bool.false_or, Bool.and_true, Bool.true_and, Bool.and_false, Bool.false_and, Bool.not_eq_true, if_true, if_false, decide_true, decide_false, Bool.false_eq_true, eq_self, reduceCtorEq, true_and, false_and, and_false, badA, exists_false, aFld, aPut, agFld, aPutAug, aMeth, aMake, mulX_ii, mulX_si, mulX_li, strA_i, strA_s, intXA_i, intXA_b, isBA_bb, isntBA_bb, aPar3, ex_tri, inA_tup, inA_lst, ninA_tup, ninA_lst, shrA_ii, andA_ii, aFor_tup, aFor_lst, aFor_enum, aLcF_lst, aLcF_tup, aLcF_rng, aLcP_lst, aLcP_tup, aLcP_enum, aTryV, aRaise, aCallX, aMethX, aErr, aDct0, aStar, aCallKX, aIsE, aFor_enumT, aFor_zip, aLcP_enumT, aLcP_zip, mulT_ii, mulT_si, mulT_li, mulT_ti, aDGet, aDGet2, aDGet1, aDPut, aDIn, aDInT, aListS, aListZip, aDictZip, aDictP, aRepl, mIsAscii, mIsPrint, Option.isSome_none, Option.isSome_some, aLam, aMkE, aIsT, aErrT, aDispC, aMkE, aIsT, aErrT, aDispC, Int.cast_ofNat_Int, Int.reduceEq, Int.reduceLT, Int.reduceLE, Int.reduceNeg, Int.reduceAdd, Int.reduceSub]
        refine ⟨a, C, v, rfl, ha, hC1, ?_⟩
        simp only [↓ite_bc, bc_t, bc_f, aFor_rng, lstA_lst, lstA_rol, aLcS_rng, eqA_ii, eqA_ss, neA_ii, neA_ss, updS_same, updS_updS, startA, List.map_cons, List.map_nil, List.cons_append, List.nil_append, List.length_cons, List.length_nil, Nat.zero_add, Nat.add_zero, Nat.reduceAdd, Nat.reduceSub, List.replicate_succ, List.replicate_zero, List.replicate,  aVar_z, aVar_s, aC, aNil, aCons, aTup, aLstV, aLst, aOp, aUn, aTru, aTst, aCmp, aChn, aChnT, aAnd, aOr, aNot, aIf, aAndV, aOrV, aNotV, aCB, aCall, aNext, aSeq, aBrk, aCnt, aRet, aRetN, aIfS, aNev,  agName, agNil, agCons, agTup, aAsg, aPar, aDrop, aCallK, aCallKn, aM, aM0, aAddS, aYes, one1, one2, wipeA, aRevT, aRevL, agSub_def, aSl, aPart, aNoPart, cutAns_rol, cutAns_lst, cutAns_tup, cutAns_str, aLstRg, aRg1, ex_some, tupleA_lst, tupleA_tup, wstA_lst,  List.set_cons_zero, List.set_cons_succ, List.set, ex_bl, ex_int, ex_str, ex_tup, ex_eq, ex_cons, ex_pair, ex_one1, ex_one_int, and_tt, truA_bl, truOk_bl, truA_int, truOk_int, truA_lst, truOk_lst, truA_tup, truOk_tup, truA_refU, truOk_refU, Bool.not_true, Bool.not_false,  addA_ii, addA_ss, addA_tt, addA_ll, intA_ii, int2A_ii, subA_ii, mulA_ii, modA_ii, fdivA_ii, powA_ii, negA_i, ltA_ii, leA_ii, gtA_ii, geA_ii, ltA_ss, leA_ss, gtA_ss, geA_ss, isA, isntA, nonA, isiA_non, isiA_bl, isiA_int, isiA_str, isiA_tup, isiA_lst, isiA_rol, lenA_str, lenA_tup, lenA_lst, lenA_rol, absA_i, toIntA_i, toIntA_b, isIntA, isiB, String.reduceBEq, List.contains_cons, List.contains_nil, Bool.or_true, Bool.true_or, Bool.or_false, Bool.false_or, Bool.and_true, Bool.true_and, Bool.and_false, Bool.false_and, Bool.not_eq_true, if_true, if_false, decide_true, decide_false, Bool.false_eq_true, eq_self, reduceCtorEq, true_and, false_and, and_false, badA, exists_false, aFld, aPut, agFld, aPutAug, aMeth, aMake, mulX_ii, mulX_si, mulX_li, strA_i, strA_s, intXA_i, intXA_b, isBA_bb, isntBA_bb, aPar3, ex_tri, inA_tup, inA_lst, ninA_tup, ninA_lst, shrA_ii, andA_ii, aFor_tup, aFor_lst, aFor_enum, aLcF_lst, aLcF_tup, aLcF_rng, aLcP_lst, aLcP_tup, aLcP_enum, aTryV, aRaise, aCallX, aMethX, aErr, aDct0, aStar, aCallKX, aIsE, aFor_enumT, aFor_zip, aLcP_enumT, aLcP_zip, mulT_ii, mulT_si, mulT_li, mulT_ti, aDGet, aDGet2, aDGet1, aDPut, aDIn, aDInT, aListS, aListZip, aDictZip, aDictP, aRepl, mIsAscii, mIsPrint, Option.isSome_none, Option.isSome_some, aLam, aMkE, aIsT, aErrT, aDispC, aMkE, aIsT, aErrT, aDispC, Int.cast_ofNat_Int, Int.reduceEq, Int.reduceLT, Int.reduceLE, Int.reduceNeg, Int.reduceAdd, Int.reduceSub]
        refine ⟨by first | rfl | trivial | simp [tyA], _, _, j, _, rfl, rfl, rfl, kinds_fl C (excL0 C_HouseError f_HouseError C_BadValue C_BadText C_BadValues C_BadDeed C_BadPath C_NoFile C_BadDeeds C_BadTree C_BadName C_BadNumber C_BadSeal C_OtherBody C_NoBlock C_BadRoot C_BadKey C_BadMap C_NoKey C_BadRows C_BadFile C_Beyond C_TooLong C_BadImage C_BadSteps C_BadChoices C_TooFull C_BadNames C_BadPast C_BadCounts C_NoRow C_NoDesk C_NotOwn C_TooMany C_Cheated C_Busy C_NotOpen C_BadRoots C_Full C_BadTellings C_Never C_BadEvents C_BadRule C_BadLine C_NotBusy C_BadAnswer C_BadDay C_DayOver C_NoName), ki.1, rfl, ki.2, ?_⟩
        simp only [ne_i]
        simp only [↓ite_bc, bc_t, bc_f, aFor_rng, lstA_lst, lstA_rol, aLcS_rng, eqA_ii, eqA_ss, neA_ii, neA_ss, updS_same, updS_updS, startA, List.map_cons, List.map_nil, List.cons_append, List.nil_append, List.length_cons, List.length_nil, Nat.zero_add, Nat.add_zero, Nat.reduceAdd, Nat.reduceSub, List.replicate_succ, List.replicate_zero, List.replicate,  aVar_z, aVar_s, aC, aNil, aCons, aTup, aLstV, aLst, aOp, aUn, aTru, aTst, aCmp, aChn, aChnT, aAnd, aOr, aNot, aIf, aAndV, aOrV, aNotV, aCB, aCall, aNext, aSeq, aBrk, aCnt, aRet, aRetN, aIfS, aNev,  agName, agNil, agCons, agTup, aAsg, aPar, aDrop, aCallK, aCallKn, aM, aM0, aAddS, aYes, one1, one2, wipeA, aRevT, aRevL, agSub_def, aSl, aPart, aNoPart, cutAns_rol, cutAns_lst, cutAns_tup, cutAns_str, aLstRg, aRg1, ex_some, tupleA_lst, tupleA_tup, wstA_lst,  List.set_cons_zero, List.set_cons_succ, List.set, ex_bl, ex_int, ex_str, ex_tup, ex_eq, ex_cons, ex_pair, ex_one1, ex_one_int, and_tt, truA_bl, truOk_bl, truA_int, truOk_int, truA_lst, truOk_lst, truA_tup, truOk_tup, truA_refU, truOk_refU, Bool.not_true, Bool.not_false,  addA_ii, addA_ss, addA_tt, addA_ll, intA_ii, int2A_ii, subA_ii, mulA_ii, modA_ii, fdivA_ii, powA_ii, negA_i, ltA_ii, leA_ii, gtA_ii, geA_ii, ltA_ss, leA_ss, gtA_ss, geA_ss, isA, isntA, nonA, isiA_non, isiA_bl, isiA_int, isiA_str, isiA_tup, isiA_lst, isiA_rol, lenA_str, lenA_tup, lenA_lst, lenA_rol, absA_i, toIntA_i, toIntA_b, isIntA, isiB, String.reduceBEq, List.contains_cons, List.contains_nil, Bool.or_true, Bool.true_or, Bool.or_false, Bool.false_or, Bool.and_true, Bool.true_and, Bool.and_false, Bool.false_and, Bool.not_eq_true, if_true, if_false, decide_true, decide_false, Bool.false_eq_true, eq_self, reduceCtorEq, true_and, false_and, and_false, badA, exists_false, aFld, aPut, agFld, aPutAug, aMeth, aMake, mulX_ii, mulX_si, mulX_li, strA_i, strA_s, intXA_i, intXA_b, isBA_bb, isntBA_bb, aPar3, ex_tri, inA_tup, inA_lst, ninA_tup, ninA_lst, shrA_ii, andA_ii, aFor_tup, aFor_lst, aFor_enum, aLcF_lst, aLcF_tup, aLcF_rng, aLcP_lst, aLcP_tup, aLcP_enum, aTryV, aRaise, aCallX, aMethX, aErr, aDct0, aStar, aCallKX, aIsE, aFor_enumT, aFor_zip, aLcP_enumT, aLcP_zip, mulT_ii, mulT_si, mulT_li, mulT_ti, aDGet, aDGet2, aDGet1, aDPut, aDIn, aDInT, aListS, aListZip, aDictZip, aDictP, aRepl, mIsAscii, mIsPrint, Option.isSome_none, Option.isSome_some, aLam, aMkE, aIsT, aErrT, aDispC, aMkE, aIsT, aErrT, aDispC, Int.cast_ofNat_Int, Int.reduceEq, Int.reduceLT, Int.reduceLE, Int.reduceNeg, Int.reduceAdd, Int.reduceSub]
        refine ⟨a, C, v, rfl, ha, hC1, ?_⟩
        simp only [↓ite_bc, bc_t, bc_f, aFor_rng, lstA_lst, lstA_rol, aLcS_rng, eqA_ii, eqA_ss, neA_ii, neA_ss, updS_same, updS_updS, startA, List.map_cons, List.map_nil, List.cons_append, List.nil_append, List.length_cons, List.length_nil, Nat.zero_add, Nat.add_zero, Nat.reduceAdd, Nat.reduceSub, List.replicate_succ, List.replicate_zero, List.replicate,  aVar_z, aVar_s, aC, aNil, aCons, aTup, aLstV, aLst, aOp, aUn, aTru, aTst, aCmp, aChn, aChnT, aAnd, aOr, aNot, aIf, aAndV, aOrV, aNotV, aCB, aCall, aNext, aSeq, aBrk, aCnt, aRet, aRetN, aIfS, aNev,  agName, agNil, agCons, agTup, aAsg, aPar, aDrop, aCallK, aCallKn, aM, aM0, aAddS, aYes, one1, one2, wipeA, aRevT, aRevL, agSub_def, aSl, aPart, aNoPart, cutAns_rol, cutAns_lst, cutAns_tup, cutAns_str, aLstRg, aRg1, ex_some, tupleA_lst, tupleA_tup, wstA_lst,  List.set_cons_zero, List.set_cons_succ, List.set, ex_bl, ex_int, ex_str, ex_tup, ex_eq, ex_cons, ex_pair, ex_one1, ex_one_int, and_tt, truA_bl, truOk_bl, truA_int, truOk_int, truA_lst, truOk_lst, truA_tup, truOk_tup, truA_refU, truOk_refU, Bool.not_true, Bool.not_false,  addA_ii, addA_ss, addA_tt, addA_ll, intA_ii, int2A_ii, subA_ii, mulA_ii, modA_ii, fdivA_ii, powA_ii, negA_i, ltA_ii, leA_ii, gtA_ii, geA_ii, ltA_ss, leA_ss, gtA_ss, geA_ss, isA, isntA, nonA, isiA_non, isiA_bl, isiA_int, isiA_str, isiA_tup, isiA_lst, isiA_rol, lenA_str, lenA_tup, lenA_lst, lenA_rol, absA_i, toIntA_i, toIntA_b, isIntA, isiB, String.reduceBEq, List.contains_cons, List.contains_nil, Bool.or_true, Bool.true_or, Bool.or_false, Bool.false_or, Bool.and_true, Bool.true_and, Bool.and_false, Bool.false_and, Bool.not_eq_true, if_true, if_false, decide_true, decide_false, Bool.false_eq_true, eq_self, reduceCtorEq, true_and, false_and, and_false, badA, exists_false, aFld, aPut, agFld, aPutAug, aMeth, aMake, mulX_ii, mulX_si, mulX_li, strA_i, strA_s, intXA_i, intXA_b, isBA_bb, isntBA_bb, aPar3, ex_tri, inA_tup, inA_lst, ninA_tup, ninA_lst, shrA_ii, andA_ii, aFor_tup, aFor_lst, aFor_enum, aLcF_lst, aLcF_tup, aLcF_rng, aLcP_lst, aLcP_tup, aLcP_enum, aTryV, aRaise, aCallX, aMethX, aErr, aDct0, aStar, aCallKX, aIsE, aFor_enumT, aFor_zip, aLcP_enumT, aLcP_zip, mulT_ii, mulT_si, mulT_li, mulT_ti, aDGet, aDGet2, aDGet1, aDPut, aDIn, aDInT, aListS, aListZip, aDictZip, aDictP, aRepl, mIsAscii, mIsPrint, Option.isSome_none, Option.isSome_some, aLam, aMkE, aIsT, aErrT, aDispC, aMkE, aIsT, aErrT, aDispC, Int.cast_ofNat_Int, Int.reduceEq, Int.reduceLT, Int.reduceLE, Int.reduceNeg, Int.reduceAdd, Int.reduceSub]
        refine ⟨by first | rfl | trivial | simp [tyA], count_one (Cs := excL0 C_HouseError f_HouseError C_BadValue C_BadText C_BadValues C_BadDeed C_BadPath C_NoFile C_BadDeeds C_BadTree C_BadName C_BadNumber C_BadSeal C_OtherBody C_NoBlock C_BadRoot C_BadKey C_BadMap C_NoKey C_BadRows C_BadFile C_Beyond C_TooLong C_BadImage C_BadSteps C_BadChoices C_TooFull C_BadNames C_BadPast C_BadCounts C_NoRow C_NoDesk C_NotOwn C_TooMany C_Cheated C_Busy C_NotOpen C_BadRoots C_Full C_BadTellings C_Never C_BadEvents C_BadRule C_BadLine C_NotBusy C_BadAnswer C_BadDay C_DayOver C_NoName) T.knd hC0 ?_⟩
        simp only [ne_i]
        simp only [↓ite_bc, bc_t, bc_f, aFor_rng, lstA_lst, lstA_rol, aLcS_rng, eqA_ii, eqA_ss, neA_ii, neA_ss, updS_same, updS_updS, startA, List.map_cons, List.map_nil, List.cons_append, List.nil_append, List.length_cons, List.length_nil, Nat.zero_add, Nat.add_zero, Nat.reduceAdd, Nat.reduceSub, List.replicate_succ, List.replicate_zero, List.replicate,  aVar_z, aVar_s, aC, aNil, aCons, aTup, aLstV, aLst, aOp, aUn, aTru, aTst, aCmp, aChn, aChnT, aAnd, aOr, aNot, aIf, aAndV, aOrV, aNotV, aCB, aCall, aNext, aSeq, aBrk, aCnt, aRet, aRetN, aIfS, aNev,  agName, agNil, agCons, agTup, aAsg, aPar, aDrop, aCallK, aCallKn, aM, aM0, aAddS, aYes, one1, one2, wipeA, aRevT, aRevL, agSub_def, aSl, aPart, aNoPart, cutAns_rol, cutAns_lst, cutAns_tup, cutAns_str, aLstRg, aRg1, ex_some, tupleA_lst, tupleA_tup, wstA_lst,  List.set_cons_zero, List.set_cons_succ, List.set, ex_bl, ex_int, ex_str, ex_tup, ex_eq, ex_cons, ex_pair, ex_one1, ex_one_int, and_tt, truA_bl, truOk_bl, truA_int, truOk_int, truA_lst, truOk_lst, truA_tup, truOk_tup, truA_refU, truOk_refU, Bool.not_true, Bool.not_false,  addA_ii, addA_ss, addA_tt, addA_ll, intA_ii, int2A_ii, subA_ii, mulA_ii, modA_ii, fdivA_ii, powA_ii, negA_i, ltA_ii, leA_ii, gtA_ii, geA_ii, ltA_ss, leA_ss, gtA_ss, geA_ss, isA, isntA, nonA, isiA_non, isiA_bl, isiA_int, isiA_str, isiA_tup, isiA_lst, isiA_rol, lenA_str, lenA_tup, lenA_lst, lenA_rol, absA_i, toIntA_i, toIntA_b, isIntA, isiB, String.reduceBEq, List.contains_cons, List.contains_nil, Bool.or_true, Bool.true_or, Bool.or_false, Bool.false_or, Bool.and_true, Bool.true_and, Bool.and_false, Bool.false_and, Bool.not_eq_true, if_true, if_false, decide_true, decide_false, Bool.false_eq_true, eq_self, reduceCtorEq, true_and, false_and, and_false, badA, exists_false, aFld, aPut, agFld, aPutAug, aMeth, aMake, mulX_ii, mulX_si, mulX_li, strA_i, strA_s, intXA_i, intXA_b, isBA_bb, isntBA_bb, aPar3, ex_tri, inA_tup, inA_lst, ninA_tup, ninA_lst, shrA_ii, andA_ii, aFor_tup, aFor_lst, aFor_enum, aLcF_lst, aLcF_tup, aLcF_rng, aLcP_lst, aLcP_tup, aLcP_enum, aTryV, aRaise, aCallX, aMethX, aErr, aDct0, aStar, aCallKX, aIsE, aFor_enumT, aFor_zip, aLcP_enumT, aLcP_zip, mulT_ii, mulT_si, mulT_li, mulT_ti, aDGet, aDGet2, aDGet1, aDPut, aDIn, aDInT, aListS, aListZip, aDictZip, aDictP, aRepl, mIsAscii, mIsPrint, Option.isSome_none, Option.isSome_some, aLam, aMkE, aIsT, aErrT, aDispC, aMkE, aIsT, aErrT, aDispC, Int.cast_ofNat_Int, Int.reduceEq, Int.reduceLT, Int.reduceLE, Int.reduceNeg, Int.reduceAdd, Int.reduceSub]
        refine ⟨a, C, v, _, _, _, rfl, ha, xv.2.2, rfl, he, ?_⟩
        simp only [↓ite_bc, bc_t, bc_f, aFor_rng, lstA_lst, lstA_rol, aLcS_rng, eqA_ii, eqA_ss, neA_ii, neA_ss, updS_same, updS_updS, startA, List.map_cons, List.map_nil, List.cons_append, List.nil_append, List.length_cons, List.length_nil, Nat.zero_add, Nat.add_zero, Nat.reduceAdd, Nat.reduceSub, List.replicate_succ, List.replicate_zero, List.replicate,  aVar_z, aVar_s, aC, aNil, aCons, aTup, aLstV, aLst, aOp, aUn, aTru, aTst, aCmp, aChn, aChnT, aAnd, aOr, aNot, aIf, aAndV, aOrV, aNotV, aCB, aCall, aNext, aSeq, aBrk, aCnt, aRet, aRetN, aIfS, aNev,  agName, agNil, agCons, agTup, aAsg, aPar, aDrop, aCallK, aCallKn, aM, aM0, aAddS, aYes, one1, one2, wipeA, aRevT, aRevL, agSub_def, aSl, aPart, aNoPart, cutAns_rol, cutAns_lst, cutAns_tup, cutAns_str, aLstRg, aRg1, ex_some, tupleA_lst, tupleA_tup, wstA_lst,  List.set_cons_zero, List.set_cons_succ, List.set, ex_bl, ex_int, ex_str, ex_tup, ex_eq, ex_cons, ex_pair, ex_one1, ex_one_int, and_tt, truA_bl, truOk_bl, truA_int, truOk_int, truA_lst, truOk_lst, truA_tup, truOk_tup, truA_refU, truOk_refU, Bool.not_true, Bool.not_false,  addA_ii, addA_ss, addA_tt, addA_ll, intA_ii, int2A_ii, subA_ii, mulA_ii, modA_ii, fdivA_ii, powA_ii, negA_i, ltA_ii, leA_ii, gtA_ii, geA_ii, ltA_ss, leA_ss, gtA_ss, geA_ss, isA, isntA, nonA, isiA_non, isiA_bl, isiA_int, isiA_str, isiA_tup, isiA_lst, isiA_rol, lenA_str, lenA_tup, lenA_lst, lenA_rol, absA_i, toIntA_i, toIntA_b, isIntA, isiB, String.reduceBEq, List.contains_cons, List.contains_nil, Bool.or_true, Bool.true_or, Bool.or_false, Bool.false_or, Bool.and_true, Bool.true_and, Bool.and_false, Bool.false_and, Bool.not_eq_true, if_true, if_false, decide_true, decide_false, Bool.false_eq_true, eq_self, reduceCtorEq, true_and, false_and, and_false, badA, exists_false, aFld, aPut, agFld, aPutAug, aMeth, aMake, mulX_ii, mulX_si, mulX_li, strA_i, strA_s, intXA_i, intXA_b, isBA_bb, isntBA_bb, aPar3, ex_tri, inA_tup, inA_lst, ninA_tup, ninA_lst, shrA_ii, andA_ii, aFor_tup, aFor_lst, aFor_enum, aLcF_lst, aLcF_tup, aLcF_rng, aLcP_lst, aLcP_tup, aLcP_enum, aTryV, aRaise, aCallX, aMethX, aErr, aDct0, aStar, aCallKX, aIsE, aFor_enumT, aFor_zip, aLcP_enumT, aLcP_zip, mulT_ii, mulT_si, mulT_li, mulT_ti, aDGet, aDGet2, aDGet1, aDPut, aDIn, aDInT, aListS, aListZip, aDictZip, aDictP, aRepl, mIsAscii, mIsPrint, Option.isSome_none, Option.isSome_some, aLam, aMkE, aIsT, aErrT, aDispC, aMkE, aIsT, aErrT, aDispC, Int.cast_ofNat_Int, Int.reduceEq, Int.reduceLT, Int.reduceLE, Int.reduceNeg, Int.reduceAdd, Int.reduceSub]
        refine ⟨a, C, v, _, _, _, rfl, ha, xv.2.2, rfl, hve, ?_⟩
        simp only [↓ite_bc, bc_t, bc_f, aFor_rng, lstA_lst, lstA_rol, aLcS_rng, eqA_ii, eqA_ss, neA_ii, neA_ss, updS_same, updS_updS, startA, List.map_cons, List.map_nil, List.cons_append, List.nil_append, List.length_cons, List.length_nil, Nat.zero_add, Nat.add_zero, Nat.reduceAdd, Nat.reduceSub, List.replicate_succ, List.replicate_zero, List.replicate,  aVar_z, aVar_s, aC, aNil, aCons, aTup, aLstV, aLst, aOp, aUn, aTru, aTst, aCmp, aChn, aChnT, aAnd, aOr, aNot, aIf, aAndV, aOrV, aNotV, aCB, aCall, aNext, aSeq, aBrk, aCnt, aRet, aRetN, aIfS, aNev,  agName, agNil, agCons, agTup, aAsg, aPar, aDrop, aCallK, aCallKn, aM, aM0, aAddS, aYes, one1, one2, wipeA, aRevT, aRevL, agSub_def, aSl, aPart, aNoPart, cutAns_rol, cutAns_lst, cutAns_tup, cutAns_str, aLstRg, aRg1, ex_some, tupleA_lst, tupleA_tup, wstA_lst,  List.set_cons_zero, List.set_cons_succ, List.set, ex_bl, ex_int, ex_str, ex_tup, ex_eq, ex_cons, ex_pair, ex_one1, ex_one_int, and_tt, truA_bl, truOk_bl, truA_int, truOk_int, truA_lst, truOk_lst, truA_tup, truOk_tup, truA_refU, truOk_refU, Bool.not_true, Bool.not_false,  addA_ii, addA_ss, addA_tt, addA_ll, intA_ii, int2A_ii, subA_ii, mulA_ii, modA_ii, fdivA_ii, powA_ii, negA_i, ltA_ii, leA_ii, gtA_ii, geA_ii, ltA_ss, leA_ss, gtA_ss, geA_ss, isA, isntA, nonA, isiA_non, isiA_bl, isiA_int, isiA_str, isiA_tup, isiA_lst, isiA_rol, lenA_str, lenA_tup, lenA_lst, lenA_rol, absA_i, toIntA_i, toIntA_b, isIntA, isiB, String.reduceBEq, List.contains_cons, List.contains_nil, Bool.or_true, Bool.true_or, Bool.or_false, Bool.false_or, Bool.and_true, Bool.true_and, Bool.and_false, Bool.false_and, Bool.not_eq_true, if_true, if_false, decide_true, decide_false, Bool.false_eq_true, eq_self, reduceCtorEq, true_and, false_and, and_false, badA, exists_false, aFld, aPut, agFld, aPutAug, aMeth, aMake, mulX_ii, mulX_si, mulX_li, strA_i, strA_s, intXA_i, intXA_b, isBA_bb, isntBA_bb, aPar3, ex_tri, inA_tup, inA_lst, ninA_tup, ninA_lst, shrA_ii, andA_ii, aFor_tup, aFor_lst, aFor_enum, aLcF_lst, aLcF_tup, aLcF_rng, aLcP_lst, aLcP_tup, aLcP_enum, aTryV, aRaise, aCallX, aMethX, aErr, aDct0, aStar, aCallKX, aIsE, aFor_enumT, aFor_zip, aLcP_enumT, aLcP_zip, mulT_ii, mulT_si, mulT_li, mulT_ti, aDGet, aDGet2, aDGet1, aDPut, aDIn, aDInT, aListS, aListZip, aDictZip, aDictP, aRepl, mIsAscii, mIsPrint, Option.isSome_none, Option.isSome_some, aLam, aMkE, aIsT, aErrT, aDispC, aMkE, aIsT, aErrT, aDispC, Int.cast_ofNat_Int, Int.reduceEq, Int.reduceLT, Int.reduceLE, Int.reduceNeg, Int.reduceAdd, Int.reduceSub]
        first | exact ⟨rfl, _, _, rfl⟩ | exact ⟨_, _, rfl⟩
    · subst eτ3
      obtain rfl : S6 = S5 := eS
      refine ⟨rfl, ?_⟩
      have xh := exc_fact T hHE
      have hve := beq_iff_eq.mp (List.all_eq_true.mp T.kval _ hHE)
      simp only [↓ite_bc, bc_t, bc_f, aFor_rng, lstA_lst, lstA_rol, aLcS_rng, eqA_ii, eqA_ss, neA_ii, neA_ss, updS_same, updS_updS, startA, List.map_cons, List.map_nil, List.cons_append, List.nil_append, List.length_cons, List.length_nil, Nat.zero_add, Nat.add_zero, Nat.reduceAdd, Nat.reduceSub, List.replicate_succ, List.replicate_zero, List.replicate,  aVar_z, aVar_s, aC, aNil, aCons, aTup, aLstV, aLst, aOp, aUn, aTru, aTst, aCmp, aChn, aChnT, aAnd, aOr, aNot, aIf, aAndV, aOrV, aNotV, aCB, aCall, aNext, aSeq, aBrk, aCnt, aRet, aRetN, aIfS, aNev,  agName, agNil, agCons, agTup, aAsg, aPar, aDrop, aCallK, aCallKn, aM, aM0, aAddS, aYes, one1, one2, wipeA, aRevT, aRevL, agSub_def, aSl, aPart, aNoPart, cutAns_rol, cutAns_lst, cutAns_tup, cutAns_str, aLstRg, aRg1, ex_some, tupleA_lst, tupleA_tup, wstA_lst,  List.set_cons_zero, List.set_cons_succ, List.set, ex_bl, ex_int, ex_str, ex_tup, ex_eq, ex_cons, ex_pair, ex_one1, ex_one_int, and_tt, truA_bl, truOk_bl, truA_int, truOk_int, truA_lst, truOk_lst, truA_tup, truOk_tup, truA_refU, truOk_refU, Bool.not_true, Bool.not_false,  addA_ii, addA_ss, addA_tt, addA_ll, intA_ii, int2A_ii, subA_ii, mulA_ii, modA_ii, fdivA_ii, powA_ii, negA_i, ltA_ii, leA_ii, gtA_ii, geA_ii, ltA_ss, leA_ss, gtA_ss, geA_ss, isA, isntA, nonA, isiA_non, isiA_bl, isiA_int, isiA_str, isiA_tup, isiA_lst, isiA_rol, lenA_str, lenA_tup, lenA_lst, lenA_rol, absA_i, toIntA_i, toIntA_b, isIntA, isiB, String.reduceBEq, List.contains_cons, List.contains_nil, Bool.or_true, Bool.true_or, Bool.or_false, Bool.false_or, Bool.and_true, Bool.true_and, Bool.and_false, Bool.false_and, Bool.not_eq_true, if_true, if_false, decide_true, decide_false, Bool.false_eq_true, eq_self, reduceCtorEq, true_and, false_and, and_false, badA, exists_false, aFld, aPut, agFld, aPutAug, aMeth, aMake, mulX_ii, mulX_si, mulX_li, strA_i, strA_s, intXA_i, intXA_b, isBA_bb, isntBA_bb, aPar3, ex_tri, inA_tup, inA_lst, ninA_tup, ninA_lst, shrA_ii, andA_ii, aFor_tup, aFor_lst, aFor_enum, aLcF_lst, aLcF_tup, aLcF_rng, aLcP_lst, aLcP_tup, aLcP_enum, aTryV, aRaise, aCallX, aMethX, aErr, aDct0, aStar, aCallKX, aIsE, aFor_enumT, aFor_zip, aLcP_enumT, aLcP_zip, mulT_ii, mulT_si, mulT_li, mulT_ti, aDGet, aDGet2, aDGet1, aDPut, aDIn, aDInT, aListS, aListZip, aDictZip, aDictP, aRepl, mIsAscii, mIsPrint, Option.isSome_none, Option.isSome_some, aLam, aMkE, aIsT, aErrT, aDispC, aMkE, aIsT, aErrT, aDispC, Int.cast_ofNat_Int, Int.reduceEq, Int.reduceLT, Int.reduceLE, Int.reduceNeg, Int.reduceAdd, Int.reduceSub]
      refine ⟨b, C_HouseError, v, rfl, hb5, xh, ?_⟩
      simp only [er, ne_s]
      simp only [↓ite_bc, bc_t, bc_f, aFor_rng, lstA_lst, lstA_rol, aLcS_rng, eqA_ii, eqA_ss, neA_ii, neA_ss, updS_same, updS_updS, startA, List.map_cons, List.map_nil, List.cons_append, List.nil_append, List.length_cons, List.length_nil, Nat.zero_add, Nat.add_zero, Nat.reduceAdd, Nat.reduceSub, List.replicate_succ, List.replicate_zero, List.replicate,  aVar_z, aVar_s, aC, aNil, aCons, aTup, aLstV, aLst, aOp, aUn, aTru, aTst, aCmp, aChn, aChnT, aAnd, aOr, aNot, aIf, aAndV, aOrV, aNotV, aCB, aCall, aNext, aSeq, aBrk, aCnt, aRet, aRetN, aIfS, aNev,  agName, agNil, agCons, agTup, aAsg, aPar, aDrop, aCallK, aCallKn, aM, aM0, aAddS, aYes, one1, one2, wipeA, aRevT, aRevL, agSub_def, aSl, aPart, aNoPart, cutAns_rol, cutAns_lst, cutAns_tup, cutAns_str, aLstRg, aRg1, ex_some, tupleA_lst, tupleA_tup, wstA_lst,  List.set_cons_zero, List.set_cons_succ, List.set, ex_bl, ex_int, ex_str, ex_tup, ex_eq, ex_cons, ex_pair, ex_one1, ex_one_int, and_tt, truA_bl, truOk_bl, truA_int, truOk_int, truA_lst, truOk_lst, truA_tup, truOk_tup, truA_refU, truOk_refU, Bool.not_true, Bool.not_false,  addA_ii, addA_ss, addA_tt, addA_ll, intA_ii, int2A_ii, subA_ii, mulA_ii, modA_ii, fdivA_ii, powA_ii, negA_i, ltA_ii, leA_ii, gtA_ii, geA_ii, ltA_ss, leA_ss, gtA_ss, geA_ss, isA, isntA, nonA, isiA_non, isiA_bl, isiA_int, isiA_str, isiA_tup, isiA_lst, isiA_rol, lenA_str, lenA_tup, lenA_lst, lenA_rol, absA_i, toIntA_i, toIntA_b, isIntA, isiB, String.reduceBEq, List.contains_cons, List.contains_nil, Bool.or_true, Bool.true_or, Bool.or_false, Bool.false_or, Bool.and_true, Bool.true_and, Bool.and_false, Bool.false_and, Bool.not_eq_true, if_true, if_false, decide_true, decide_false, Bool.false_eq_true, eq_self, reduceCtorEq, true_and, false_and, and_false, badA, exists_false, aFld, aPut, agFld, aPutAug, aMeth, aMake, mulX_ii, mulX_si, mulX_li, strA_i, strA_s, intXA_i, intXA_b, isBA_bb, isntBA_bb, aPar3, ex_tri, inA_tup, inA_lst, ninA_tup, ninA_lst, shrA_ii, andA_ii, aFor_tup, aFor_lst, aFor_enum, aLcF_lst, aLcF_tup, aLcF_rng, aLcP_lst, aLcP_tup, aLcP_enum, aTryV, aRaise, aCallX, aMethX, aErr, aDct0, aStar, aCallKX, aIsE, aFor_enumT, aFor_zip, aLcP_enumT, aLcP_zip, mulT_ii, mulT_si, mulT_li, mulT_ti, aDGet, aDGet2, aDGet1, aDPut, aDIn, aDInT, aListS, aListZip, aDictZip, aDictP, aRepl, mIsAscii, mIsPrint, Option.isSome_none, Option.isSome_some, aLam, aMkE, aIsT, aErrT, aDispC, aMkE, aIsT, aErrT, aDispC, Int.cast_ofNat_Int, Int.reduceEq, Int.reduceLT, Int.reduceLE, Int.reduceNeg, Int.reduceAdd, Int.reduceSub]
      refine ⟨b, C_HouseError, v, rfl, hb5, hHE, ?_⟩
      simp only [↓ite_bc, bc_t, bc_f, aFor_rng, lstA_lst, lstA_rol, aLcS_rng, eqA_ii, eqA_ss, neA_ii, neA_ss, updS_same, updS_updS, startA, List.map_cons, List.map_nil, List.cons_append, List.nil_append, List.length_cons, List.length_nil, Nat.zero_add, Nat.add_zero, Nat.reduceAdd, Nat.reduceSub, List.replicate_succ, List.replicate_zero, List.replicate,  aVar_z, aVar_s, aC, aNil, aCons, aTup, aLstV, aLst, aOp, aUn, aTru, aTst, aCmp, aChn, aChnT, aAnd, aOr, aNot, aIf, aAndV, aOrV, aNotV, aCB, aCall, aNext, aSeq, aBrk, aCnt, aRet, aRetN, aIfS, aNev,  agName, agNil, agCons, agTup, aAsg, aPar, aDrop, aCallK, aCallKn, aM, aM0, aAddS, aYes, one1, one2, wipeA, aRevT, aRevL, agSub_def, aSl, aPart, aNoPart, cutAns_rol, cutAns_lst, cutAns_tup, cutAns_str, aLstRg, aRg1, ex_some, tupleA_lst, tupleA_tup, wstA_lst,  List.set_cons_zero, List.set_cons_succ, List.set, ex_bl, ex_int, ex_str, ex_tup, ex_eq, ex_cons, ex_pair, ex_one1, ex_one_int, and_tt, truA_bl, truOk_bl, truA_int, truOk_int, truA_lst, truOk_lst, truA_tup, truOk_tup, truA_refU, truOk_refU, Bool.not_true, Bool.not_false,  addA_ii, addA_ss, addA_tt, addA_ll, intA_ii, int2A_ii, subA_ii, mulA_ii, modA_ii, fdivA_ii, powA_ii, negA_i, ltA_ii, leA_ii, gtA_ii, geA_ii, ltA_ss, leA_ss, gtA_ss, geA_ss, isA, isntA, nonA, isiA_non, isiA_bl, isiA_int, isiA_str, isiA_tup, isiA_lst, isiA_rol, lenA_str, lenA_tup, lenA_lst, lenA_rol, absA_i, toIntA_i, toIntA_b, isIntA, isiB, String.reduceBEq, List.contains_cons, List.contains_nil, Bool.or_true, Bool.true_or, Bool.or_false, Bool.false_or, Bool.and_true, Bool.true_and, Bool.and_false, Bool.false_and, Bool.not_eq_true, if_true, if_false, decide_true, decide_false, Bool.false_eq_true, eq_self, reduceCtorEq, true_and, false_and, and_false, badA, exists_false, aFld, aPut, agFld, aPutAug, aMeth, aMake, mulX_ii, mulX_si, mulX_li, strA_i, strA_s, intXA_i, intXA_b, isBA_bb, isntBA_bb, aPar3, ex_tri, inA_tup, inA_lst, ninA_tup, ninA_lst, shrA_ii, andA_ii, aFor_tup, aFor_lst, aFor_enum, aLcF_lst, aLcF_tup, aLcF_rng, aLcP_lst, aLcP_tup, aLcP_enum, aTryV, aRaise, aCallX, aMethX, aErr, aDct0, aStar, aCallKX, aIsE, aFor_enumT, aFor_zip, aLcP_enumT, aLcP_zip, mulT_ii, mulT_si, mulT_li, mulT_ti, aDGet, aDGet2, aDGet1, aDPut, aDIn, aDInT, aListS, aListZip, aDictZip, aDictP, aRepl, mIsAscii, mIsPrint, Option.isSome_none, Option.isSome_some, aLam, aMkE, aIsT, aErrT, aDispC, aMkE, aIsT, aErrT, aDispC, Int.cast_ofNat_Int, Int.reduceEq, Int.reduceLT, Int.reduceLE, Int.reduceNeg, Int.reduceAdd, Int.reduceSub]
      refine ⟨⟨rfl, kinds_fl C_HouseError (excL0 C_HouseError f_HouseError C_BadValue C_BadText C_BadValues C_BadDeed C_BadPath C_NoFile C_BadDeeds C_BadTree C_BadName C_BadNumber C_BadSeal C_OtherBody C_NoBlock C_BadRoot C_BadKey C_BadMap C_NoKey C_BadRows C_BadFile C_Beyond C_TooLong C_BadImage C_BadSteps C_BadChoices C_TooFull C_BadNames C_BadPast C_BadCounts C_NoRow C_NoDesk C_NotOwn C_TooMany C_Cheated C_Busy C_NotOpen C_BadRoots C_Full C_BadTellings C_Never C_BadEvents C_BadRule C_BadLine C_NotBusy C_BadAnswer C_BadDay C_DayOver C_NoName)⟩, bc_ff (kinds_no T.kho) ?_⟩
      refine ⟨b, C_HouseError, v, _, _, _, rfl, hb5, xh.2.2, rfl, hve, ?_⟩
      simp only [↓ite_bc, bc_t, bc_f, aFor_rng, lstA_lst, lstA_rol, aLcS_rng, eqA_ii, eqA_ss, neA_ii, neA_ss, updS_same, updS_updS, startA, List.map_cons, List.map_nil, List.cons_append, List.nil_append, List.length_cons, List.length_nil, Nat.zero_add, Nat.add_zero, Nat.reduceAdd, Nat.reduceSub, List.replicate_succ, List.replicate_zero, List.replicate,  aVar_z, aVar_s, aC, aNil, aCons, aTup, aLstV, aLst, aOp, aUn, aTru, aTst, aCmp, aChn, aChnT, aAnd, aOr, aNot, aIf, aAndV, aOrV, aNotV, aCB, aCall, aNext, aSeq, aBrk, aCnt, aRet, aRetN, aIfS, aNev,  agName, agNil, agCons, agTup, aAsg, aPar, aDrop, aCallK, aCallKn, aM, aM0, aAddS, aYes, one1, one2, wipeA, aRevT, aRevL, agSub_def, aSl, aPart, aNoPart, cutAns_rol, cutAns_lst, cutAns_tup, cutAns_str, aLstRg, aRg1, ex_some, tupleA_lst, tupleA_tup, wstA_lst,  List.set_cons_zero, List.set_cons_succ, List.set, ex_bl, ex_int, ex_str, ex_tup, ex_eq, ex_cons, ex_pair, ex_one1, ex_one_int, and_tt, truA_bl, truOk_bl, truA_int, truOk_int, truA_lst, truOk_lst, truA_tup, truOk_tup, truA_refU, truOk_refU, Bool.not_true, Bool.not_false,  addA_ii, addA_ss, addA_tt, addA_ll, intA_ii, int2A_ii, subA_ii, mulA_ii, modA_ii, fdivA_ii, powA_ii, negA_i, ltA_ii, leA_ii, gtA_ii, geA_ii, ltA_ss, leA_ss, gtA_ss, geA_ss, isA, isntA, nonA, isiA_non, isiA_bl, isiA_int, isiA_str, isiA_tup, isiA_lst, isiA_rol, lenA_str, lenA_tup, lenA_lst, lenA_rol, absA_i, toIntA_i, toIntA_b, isIntA, isiB, String.reduceBEq, List.contains_cons, List.contains_nil, Bool.or_true, Bool.true_or, Bool.or_false, Bool.false_or, Bool.and_true, Bool.true_and, Bool.and_false, Bool.false_and, Bool.not_eq_true, if_true, if_false, decide_true, decide_false, Bool.false_eq_true, eq_self, reduceCtorEq, true_and, false_and, and_false, badA, exists_false, aFld, aPut, agFld, aPutAug, aMeth, aMake, mulX_ii, mulX_si, mulX_li, strA_i, strA_s, intXA_i, intXA_b, isBA_bb, isntBA_bb, aPar3, ex_tri, inA_tup, inA_lst, ninA_tup, ninA_lst, shrA_ii, andA_ii, aFor_tup, aFor_lst, aFor_enum, aLcF_lst, aLcF_tup, aLcF_rng, aLcP_lst, aLcP_tup, aLcP_enum, aTryV, aRaise, aCallX, aMethX, aErr, aDct0, aStar, aCallKX, aIsE, aFor_enumT, aFor_zip, aLcP_enumT, aLcP_zip, mulT_ii, mulT_si, mulT_li, mulT_ti, aDGet, aDGet2, aDGet1, aDPut, aDIn, aDInT, aListS, aListZip, aDictZip, aDictP, aRepl, mIsAscii, mIsPrint, Option.isSome_none, Option.isSome_some, aLam, aMkE, aIsT, aErrT, aDispC, aMkE, aIsT, aErrT, aDispC, Int.cast_ofNat_Int, Int.reduceEq, Int.reduceLT, Int.reduceLE, Int.reduceNeg, Int.reduceAdd, Int.reduceSub]
      exact ⟨_, _, _, _, _, _, t', rfl, hp5, okm ok' (by omega)⟩
  · subst eτ
    simp only [↓ite_bc, bc_t, bc_f, aFor_rng, lstA_lst, lstA_rol, aLcS_rng, eqA_ii, eqA_ss, neA_ii, neA_ss, updS_same, updS_updS, startA, List.map_cons, List.map_nil, List.cons_append, List.nil_append, List.length_cons, List.length_nil, Nat.zero_add, Nat.add_zero, Nat.reduceAdd, Nat.reduceSub, List.replicate_succ, List.replicate_zero, List.replicate,  aVar_z, aVar_s, aC, aNil, aCons, aTup, aLstV, aLst, aOp, aUn, aTru, aTst, aCmp, aChn, aChnT, aAnd, aOr, aNot, aIf, aAndV, aOrV, aNotV, aCB, aCall, aNext, aSeq, aBrk, aCnt, aRet, aRetN, aIfS, aNev,  agName, agNil, agCons, agTup, aAsg, aPar, aDrop, aCallK, aCallKn, aM, aM0, aAddS, aYes, one1, one2, wipeA, aRevT, aRevL, agSub_def, aSl, aPart, aNoPart, cutAns_rol, cutAns_lst, cutAns_tup, cutAns_str, aLstRg, aRg1, ex_some, tupleA_lst, tupleA_tup, wstA_lst,  List.set_cons_zero, List.set_cons_succ, List.set, ex_bl, ex_int, ex_str, ex_tup, ex_eq, ex_cons, ex_pair, ex_one1, ex_one_int, and_tt, truA_bl, truOk_bl, truA_int, truOk_int, truA_lst, truOk_lst, truA_tup, truOk_tup, truA_refU, truOk_refU, Bool.not_true, Bool.not_false,  addA_ii, addA_ss, addA_tt, addA_ll, intA_ii, int2A_ii, subA_ii, mulA_ii, modA_ii, fdivA_ii, powA_ii, negA_i, ltA_ii, leA_ii, gtA_ii, geA_ii, ltA_ss, leA_ss, gtA_ss, geA_ss, isA, isntA, nonA, isiA_non, isiA_bl, isiA_int, isiA_str, isiA_tup, isiA_lst, isiA_rol, lenA_str, lenA_tup, lenA_lst, lenA_rol, absA_i, toIntA_i, toIntA_b, isIntA, isiB, String.reduceBEq, List.contains_cons, List.contains_nil, Bool.or_true, Bool.true_or, Bool.or_false, Bool.false_or, Bool.and_true, Bool.true_and, Bool.and_false, Bool.false_and, Bool.not_eq_true, if_true, if_false, decide_true, decide_false, Bool.false_eq_true, eq_self, reduceCtorEq, true_and, false_and, and_false, badA, exists_false, aFld, aPut, agFld, aPutAug, aMeth, aMake, mulX_ii, mulX_si, mulX_li, strA_i, strA_s, intXA_i, intXA_b, isBA_bb, isntBA_bb, aPar3, ex_tri, inA_tup, inA_lst, ninA_tup, ninA_lst, shrA_ii, andA_ii, aFor_tup, aFor_lst, aFor_enum, aLcF_lst, aLcF_tup, aLcF_rng, aLcP_lst, aLcP_tup, aLcP_enum, aTryV, aRaise, aCallX, aMethX, aErr, aDct0, aStar, aCallKX, aIsE, aFor_enumT, aFor_zip, aLcP_enumT, aLcP_zip, mulT_ii, mulT_si, mulT_li, mulT_ti, aDGet, aDGet2, aDGet1, aDPut, aDIn, aDInT, aListS, aListZip, aDictZip, aDictP, aRepl, mIsAscii, mIsPrint, Option.isSome_none, Option.isSome_some, aLam, aMkE, aIsT, aErrT, aDispC, aMkE, aIsT, aErrT, aDispC, Int.cast_ofNat_Int, Int.reduceEq, Int.reduceLT, Int.reduceLE, Int.reduceNeg, Int.reduceAdd, Int.reduceSub]
    exact rt_same (q _)
def sp_law : ASp := fun ds S Q => ∃ ns : List Int, ds = [.rol (ns.map .int)] ∧ ns.length ≤ 63 ∧ ∀ S', Q (.bl true) S'
set_option maxHeartbeats 4000000 in
theorem fn_law (T : Txt P w K mg C_HouseError f_HouseError C_BadValue C_BadText C_BadValues C_BadDeed C_BadPath C_NoFile C_BadDeeds C_BadTree C_BadName C_BadNumber C_BadSeal C_OtherBody C_NoBlock C_BadRoot C_BadKey C_BadMap C_NoKey C_BadRows C_BadFile C_Beyond C_TooLong C_BadImage C_BadSteps C_BadChoices C_TooFull C_BadNames C_BadPast C_BadCounts C_NoRow C_NoDesk C_NotOwn C_TooMany C_Cheated C_Busy C_NotOpen C_BadRoots C_Full C_BadTellings C_Never C_BadEvents C_BadRule C_BadLine C_NotBusy C_BadAnswer C_BadDay C_DayOver C_NoName) (F__law_cells : Fn4 P w K mg base 1 "_law_cells" ["script", "most"] sp__law_cells) (F__law_right : Fn4 P w K mg base 4 "_law_right" ["pot"] (sp__law_right C_HouseError f_HouseError C_BadValue C_BadText C_BadValues C_BadDeed C_BadPath C_NoFile C_BadDeeds C_BadTree C_BadName C_BadNumber C_BadSeal C_OtherBody C_NoBlock C_BadRoot C_BadKey C_BadMap C_NoKey C_BadRows C_BadFile C_Beyond C_TooLong C_BadImage C_BadSteps C_BadChoices C_TooFull C_BadNames C_BadPast C_BadCounts C_NoRow C_NoDesk C_NotOwn C_TooMany C_Cheated C_Busy C_NotOpen C_BadRoots C_Full C_BadTellings C_Never C_BadEvents C_BadRule C_BadLine C_NotBusy C_BadAnswer C_BadDay C_DayOver C_NoName)) (F__law_pot : Fn4 P w K mg base 1 "_law_pot" ["script", "place"] sp__law_pot) : FnX P w K mg base 5 "law" st_law ["script"] sp_law := by
  refine FnX.of T.d_law fun f fd F => F.ok4 sc_law (fun ds S Q h => by unfold sp_law at h; first | (obtain ⟨_, rfl, _⟩ := h; rfl) | (obtain ⟨_, _, rfl, _⟩ := h; rfl) | (obtain ⟨_, _, _, rfl, _⟩ := h; rfl) | (obtain ⟨_, _, _, _, rfl, _⟩ := h; rfl) | (obtain ⟨_, _, _, _, _, rfl, _⟩ := h; rfl) | (obtain ⟨_, _, _, _, _, _, rfl, _⟩ := h; rfl) | (obtain ⟨_, _, _, _, _, _, _, rfl, _⟩ := h; rfl) | (repeat (first | (rcases h with ⟨rfl, _⟩; rfl) | (obtain ⟨_, h⟩ := h)))) fun cdv A gd out s H E hr => ?_
  refine ⟨_, (s_one (s_ret (e_cb (c_all rfl) T.n_all (by decide +kernel) (a_cons (e_lc 1 [("place", 1)] rfl sc_law.nd (i_lst (f_call F__law_cells gd (hr.mono (by decide)) (a_cons (e_var 0) (a_cons e_int a_nil)))) (blkOk_by (N := nm_law) (sc := defScope st_law) (by decide +kernel)) (fun _ _ _ _ _ => pg_name sc_law.nd rfl (Or.inl rfl)) (fun _ _ _ _ _ => ts_nil) (fun _ _ _ _ _ => (f_call F__law_right gd (hr.mono (by decide)) (a_cons (f_call F__law_pot gd (hr.mono (by decide)) (a_cons (e_var 0) (a_cons (e_var 1) a_nil))) a_nil)))) a_nil)))), ?_⟩
  rintro _ S Q ⟨ns, rfl, hl, q⟩
  walk_at "rd"
  refine ⟨ns, 3, rfl, by omega, by omega, hl, fun n n0 n1 => ?_⟩
  simp only [↓ite_bc, bc_t, bc_f, aFor_rng, lstA_lst, lstA_rol, aLcS_rng, eqA_ii, eqA_ss, neA_ii, neA_ss, updS_same, updS_updS, startA, List.map_cons, List.map_nil, List.cons_append, List.nil_append, List.length_cons, List.length_nil, Nat.zero_add, Nat.add_zero, Nat.reduceAdd, Nat.reduceSub, List.replicate_succ, List.replicate_zero, List.replicate,  aVar_z, aVar_s, aC, aNil, aCons, aTup, aLstV, aLst, aOp, aUn, aTru, aTst, aCmp, aChn, aChnT, aAnd, aOr, aNot, aIf, aAndV, aOrV, aNotV, aCB, aCall, aNext, aSeq, aBrk, aCnt, aRet, aRetN, aIfS, aNev,  agName, agNil, agCons, agTup, aAsg, aPar, aDrop, aCallK, aCallKn, aM, aM0, aAddS, aYes, one1, one2, wipeA, aRevT, aRevL, agSub_def, aSl, aPart, aNoPart, cutAns_rol, cutAns_lst, cutAns_tup, cutAns_str, aLstRg, aRg1, ex_some, tupleA_lst, tupleA_tup, wstA_lst,  List.set_cons_zero, List.set_cons_succ, List.set, ex_bl, ex_int, ex_str, ex_tup, ex_eq, ex_cons, ex_pair, ex_one1, ex_one_int, and_tt, truA_bl, truOk_bl, truA_int, truOk_int, truA_lst, truOk_lst, truA_tup, truOk_tup, truA_refU, truOk_refU, Bool.not_true, Bool.not_false,  addA_ii, addA_ss, addA_tt, addA_ll, intA_ii, int2A_ii, subA_ii, mulA_ii, modA_ii, fdivA_ii, powA_ii, negA_i, ltA_ii, leA_ii, gtA_ii, geA_ii, ltA_ss, leA_ss, gtA_ss, geA_ss, isA, isntA, nonA, isiA_non, isiA_bl, isiA_int, isiA_str, isiA_tup, isiA_lst, isiA_rol, lenA_str, lenA_tup, lenA_lst, lenA_rol, absA_i, toIntA_i, toIntA_b, isIntA, isiB, String.reduceBEq, List.contains_cons, List.contains_nil, Bool.or_true, Bool.true_or, Bool.or_false, Bool.false_or, Bool.and_true, Bool.true_and, Bool.and_false, Bool.false_and, Bool.not_eq_true, if_true, if_false, decide_true, decide_false, Bool.false_eq_true, eq_self, reduceCtorEq, true_and, false_and, and_false, badA, exists_false, aFld, aPut, agFld, aPutAug, aMeth, aMake, mulX_ii, mulX_si, mulX_li, strA_i, strA_s, intXA_i, intXA_b, isBA_bb, isntBA_bb, aPar3, ex_tri, inA_tup, inA_lst, ninA_tup, ninA_lst, shrA_ii, andA_ii, aFor_tup, aFor_lst, aFor_enum, aLcF_lst, aLcF_tup, aLcF_rng, aLcP_lst, aLcP_tup, aLcP_enum, aTryV, aRaise, aCallX, aMethX, aErr, aDct0, aStar, aCallKX, aIsE, aFor_enumT, aFor_zip, aLcP_enumT, aLcP_zip, mulT_ii, mulT_si, mulT_li, mulT_ti, aDGet, aDGet2, aDGet1, aDPut, aDIn, aDInT, aListS, aListZip, aDictZip, aDictP, aRepl, mIsAscii, mIsPrint, Option.isSome_none, Option.isSome_some, aLam, aMkE, aIsT, aErrT, aDispC, aMkE, aIsT, aErrT, aDispC, ]
  refine lcF_free (fun y => y = .bl true) (by rw [rngA_len]; exact le_sl (by omega)) (fun _ => by trivial) (fun x hx Sx Qe h => ?_) (fun acc S' ha hn => ?_)
  · obtain ⟨k, hk, rfl⟩ := List.mem_map.mp hx
    rw [List.mem_range] at hk
    simp only [↓ite_bc, bc_t, bc_f, aFor_rng, lstA_lst, lstA_rol, aLcS_rng, eqA_ii, eqA_ss, neA_ii, neA_ss, updS_same, updS_updS, startA, List.map_cons, List.map_nil, List.cons_append, List.nil_append, List.length_cons, List.length_nil, Nat.zero_add, Nat.add_zero, Nat.reduceAdd, Nat.reduceSub, List.replicate_succ, List.replicate_zero, List.replicate,  aVar_z, aVar_s, aC, aNil, aCons, aTup, aLstV, aLst, aOp, aUn, aTru, aTst, aCmp, aChn, aChnT, aAnd, aOr, aNot, aIf, aAndV, aOrV, aNotV, aCB, aCall, aNext, aSeq, aBrk, aCnt, aRet, aRetN, aIfS, aNev,  agName, agNil, agCons, agTup, aAsg, aPar, aDrop, aCallK, aCallKn, aM, aM0, aAddS, aYes, one1, one2, wipeA, aRevT, aRevL, agSub_def, aSl, aPart, aNoPart, cutAns_rol, cutAns_lst, cutAns_tup, cutAns_str, aLstRg, aRg1, ex_some, tupleA_lst, tupleA_tup, wstA_lst,  List.set_cons_zero, List.set_cons_succ, List.set, ex_bl, ex_int, ex_str, ex_tup, ex_eq, ex_cons, ex_pair, ex_one1, ex_one_int, and_tt, truA_bl, truOk_bl, truA_int, truOk_int, truA_lst, truOk_lst, truA_tup, truOk_tup, truA_refU, truOk_refU, Bool.not_true, Bool.not_false,  addA_ii, addA_ss, addA_tt, addA_ll, intA_ii, int2A_ii, subA_ii, mulA_ii, modA_ii, fdivA_ii, powA_ii, negA_i, ltA_ii, leA_ii, gtA_ii, geA_ii, ltA_ss, leA_ss, gtA_ss, geA_ss, isA, isntA, nonA, isiA_non, isiA_bl, isiA_int, isiA_str, isiA_tup, isiA_lst, isiA_rol, lenA_str, lenA_tup, lenA_lst, lenA_rol, absA_i, toIntA_i, toIntA_b, isIntA, isiB, String.reduceBEq, List.contains_cons, List.contains_nil, Bool.or_true, Bool.true_or, Bool.or_false, Bool.false_or, Bool.and_true, Bool.true_and, Bool.and_false, Bool.false_and, Bool.not_eq_true, if_true, if_false, decide_true, decide_false, Bool.false_eq_true, eq_self, reduceCtorEq, true_and, false_and, and_false, badA, exists_false, aFld, aPut, agFld, aPutAug, aMeth, aMake, mulX_ii, mulX_si, mulX_li, strA_i, strA_s, intXA_i, intXA_b, isBA_bb, isntBA_bb, aPar3, ex_tri, inA_tup, inA_lst, ninA_tup, ninA_lst, shrA_ii, andA_ii, aFor_tup, aFor_lst, aFor_enum, aLcF_lst, aLcF_tup, aLcF_rng, aLcP_lst, aLcP_tup, aLcP_enum, aTryV, aRaise, aCallX, aMethX, aErr, aDct0, aStar, aCallKX, aIsE, aFor_enumT, aFor_zip, aLcP_enumT, aLcP_zip, mulT_ii, mulT_si, mulT_li, mulT_ti, aDGet, aDGet2, aDGet1, aDPut, aDIn, aDInT, aListS, aListZip, aDictZip, aDictP, aRepl, mIsAscii, mIsPrint, Option.isSome_none, Option.isSome_some, aLam, aMkE, aIsT, aErrT, aDispC, aMkE, aIsT, aErrT, aDispC, ]
    refine ⟨ns, k, by rw [Int.zero_add], by omega, fun l t hl2 okt => ?_⟩
    exact ⟨l, t, rfl, updS_same, okt, fun S' => h _ _ rfl⟩
  · have e : acc = acc.map fun _ => AV.bl true := by
      rw [List.map_const']
      exact List.eq_replicate_iff.mpr ⟨rfl, ha⟩
    obtain ⟨a, b⟩ := allA_map acc (fun _ => true) S'
    rw [← e] at a b
    rw [b]
    refine ⟨a, ?_⟩
    have e2 : (acc.all fun _ => true) = true := List.all_eq_true.mpr fun _ _ => rfl
    rw [e2]
    exact rt_same (q S')
end
theorem law_end (ns : List Int) (hl : ns.length ≤ 63) (S : Store) (Q : AK) (q : ∀ S', Q (.bl true) S') : sp_law [.rol (ns.map .int)] S Q := ⟨ns, rfl, hl, q⟩
theorem all_of {l : PySem.W.OpenLaw} {w : World} {K : PySem.W.Frag} {mg : Str → Option Value} {fa : Addr} {C_HouseError : Addr} {f_HouseError : Addr} {C_BadValue : Addr} {C_BadText : Addr} {C_BadValues : Addr} {C_BadDeed : Addr} {C_BadPath : Addr} {C_NoFile : Addr} {C_BadDeeds : Addr} {C_BadTree : Addr} {C_BadName : Addr} {C_BadNumber : Addr} {C_BadSeal : Addr} {C_OtherBody : Addr} {C_NoBlock : Addr} {C_BadRoot : Addr} {C_BadKey : Addr} {C_BadMap : Addr} {C_NoKey : Addr} {C_BadRows : Addr} {C_BadFile : Addr} {C_Beyond : Addr} {C_TooLong : Addr} {C_BadImage : Addr} {C_BadSteps : Addr} {C_BadChoices : Addr} {C_TooFull : Addr} {C_BadNames : Addr} {C_BadPast : Addr} {C_BadCounts : Addr} {C_NoRow : Addr} {C_NoDesk : Addr} {C_NotOwn : Addr} {C_TooMany : Addr} {C_Cheated : Addr} {C_Busy : Addr} {C_NotOpen : Addr} {C_BadRoots : Addr} {C_Full : Addr} {C_BadTellings : Addr} {C_Never : Addr} {C_BadEvents : Addr} {C_BadRule : Addr} {C_BadLine : Addr} {C_NotBusy : Addr} {C_BadAnswer : Addr} {C_BadDay : Addr} {C_DayOver : Addr} {C_NoName : Addr} (T : Txt l.prog w K mg C_HouseError f_HouseError C_BadValue C_BadText C_BadValues C_BadDeed C_BadPath C_NoFile C_BadDeeds C_BadTree C_BadName C_BadNumber C_BadSeal C_OtherBody C_NoBlock C_BadRoot C_BadKey C_BadMap C_NoKey C_BadRows C_BadFile C_Beyond C_TooLong C_BadImage C_BadSteps C_BadChoices C_TooFull C_BadNames C_BadPast C_BadCounts C_NoRow C_NoDesk C_NotOwn C_TooMany C_Cheated C_Busy C_NotOpen C_BadRoots C_Full C_BadTellings C_Never C_BadEvents C_BadRule C_BadLine C_NotBusy C_BadAnswer C_BadDay C_DayOver C_NoName) (hmg : mg "law" = some (.ref fa)) :
    ∃ fd : FuncData, (∀ (s : Shared) (u : Value), BindsTo s fd ⟨[u], []⟩ [("script", u)]) ∧ ∀ base : Heap, K.In base → base.Ns mainGlobals mg → FnG l.prog w K mg base 5 fa fd ["script"] (spOf K sp_law) := by
  refine FnX.law T.d_law (fun base => ?_) hmg (fun _ _ _ _ _ _ us hl => match us, hl with | [_], _ => rfl)
  have F__law_pot := fn__law_pot (P := l.prog) (w := w) (base := base) T 
  have F__law_take := fn__law_take (P := l.prog) (w := w) (base := base) T 
  have F__law_cells := fn__law_cells (P := l.prog) (w := w) (base := base) T 
  have F__law_kinds_too := fn__law_kinds_too (P := l.prog) (w := w) (base := base) T 
  have F__law_kinds_more := fn__law_kinds_more (P := l.prog) (w := w) (base := base) T 
  have F__law_of := fn__law_of (P := l.prog) (w := w) (base := base) T F__law_take.f4
  have F__law_made_too := fn__law_made_too (P := l.prog) (w := w) (base := base) T 
  have F__law_made_more := fn__law_made_more (P := l.prog) (w := w) (base := base) T 
  have F__law_kinds := fn__law_kinds (P := l.prog) (w := w) (base := base) T F__law_kinds_too.f4 F__law_kinds_more.f4
  have F__law_odd := fn__law_odd (P := l.prog) (w := w) (base := base) T F__law_of.f4
  have F__law_made := fn__law_made (P := l.prog) (w := w) (base := base) T F__law_made_too.f4 F__law_made_more.f4
  have F__law_right := fn__law_right (P := l.prog) (w := w) (base := base) T F__law_odd.f4 F__law_made.f4 F__law_kinds.f4
  have F_law := fn_law (P := l.prog) (w := w) (base := base) T F__law_cells.f4 F__law_right.f4 F__law_pot.f4
  exact F_law
end G
open PySem PySem.W PyProof.Rows in
set_option maxRecDepth 100000 in
set_option maxHeartbeats 0 in
theorem PySem.Challenge.cw_lyinghouse_k89_errors_keep_any_value_holds : PySem.Challenge.rw_lyinghouse_k89_errors_keep_any_value.Holds := by
  refine earlyHead.2 ?_
  delta earlyHead
  dsimp only
  k_fill
  refine L3.walk_ofG (l := PySem.Challenge.rw_lyinghouse_k89_errors_keep_any_value) (n := 63) (k := 5) (x := "script") (sp := fun K => L3.spOf K G.sp_law) rfl (by decide) rfl ⟨rfl, by decide, by decide⟩ (fun w h Y => PySem.W.kIn_of Y) ?F ?S
  case S => exact fun K H a ns hl only hS => L3.sp_end only hS (G.law_end ns hl)
  case F =>
    as_aux_lemma =>
    intro w mg fa h KX Gm hX hmg
    refine' G.all_of (l := PySem.Challenge.rw_lyinghouse_k89_errors_keep_any_value) ⟨?n_ValueError, ?n_abs, ?n_all, ?n_enumerate, ?n_int, ?n_isinstance, ?n_len, ?n_list, ?n_max, ?n_min, ?n_range, ?n_repr, ?n_sum, ?g_HouseError, ?ex_HouseError, ?xc_HouseError, ?g_BadValue, ?ex_BadValue, ?xc_BadValue, ?g_BadText, ?ex_BadText, ?xc_BadText, ?g_BadValues, ?ex_BadValues, ?xc_BadValues, ?g_BadDeed, ?ex_BadDeed, ?xc_BadDeed, ?g_BadPath, ?ex_BadPath, ?xc_BadPath, ?g_NoFile, ?ex_NoFile, ?xc_NoFile, ?g_BadDeeds, ?ex_BadDeeds, ?xc_BadDeeds, ?g_BadTree, ?ex_BadTree, ?xc_BadTree, ?g_BadName, ?ex_BadName, ?xc_BadName, ?g_BadNumber, ?ex_BadNumber, ?xc_BadNumber, ?g_BadSeal, ?ex_BadSeal, ?xc_BadSeal, ?g_OtherBody, ?ex_OtherBody, ?xc_OtherBody, ?g_NoBlock, ?ex_NoBlock, ?xc_NoBlock, ?g_BadRoot, ?ex_BadRoot, ?xc_BadRoot, ?g_BadKey, ?ex_BadKey, ?xc_BadKey, ?g_BadMap, ?ex_BadMap, ?xc_BadMap, ?g_NoKey, ?ex_NoKey, ?xc_NoKey, ?g_BadRows, ?ex_BadRows, ?xc_BadRows, ?g_BadFile, ?ex_BadFile, ?xc_BadFile, ?g_Beyond, ?ex_Beyond, ?xc_Beyond, ?g_TooLong, ?ex_TooLong, ?xc_TooLong, ?g_BadImage, ?ex_BadImage, ?xc_BadImage, ?g_BadSteps, ?ex_BadSteps, ?xc_BadSteps, ?g_BadChoices, ?ex_BadChoices, ?xc_BadChoices, ?g_TooFull, ?ex_TooFull, ?xc_TooFull, ?g_BadNames, ?ex_BadNames, ?xc_BadNames, ?g_BadPast, ?ex_BadPast, ?xc_BadPast, ?g_BadCounts, ?ex_BadCounts, ?xc_BadCounts, ?g_NoRow, ?ex_NoRow, ?xc_NoRow, ?g_NoDesk, ?ex_NoDesk, ?xc_NoDesk, ?g_NotOwn, ?ex_NotOwn, ?xc_NotOwn, ?g_TooMany, ?ex_TooMany, ?xc_TooMany, ?g_Cheated, ?ex_Cheated, ?xc_Cheated, ?g_Busy, ?ex_Busy, ?xc_Busy, ?g_NotOpen, ?ex_NotOpen, ?xc_NotOpen, ?g_BadRoots, ?ex_BadRoots, ?xc_BadRoots, ?g_Full, ?ex_Full, ?xc_Full, ?g_BadTellings, ?ex_BadTellings, ?xc_BadTellings, ?g_Never, ?ex_Never, ?xc_Never, ?g_BadEvents, ?ex_BadEvents, ?xc_BadEvents, ?g_BadRule, ?ex_BadRule, ?xc_BadRule, ?g_BadLine, ?ex_BadLine, ?xc_BadLine, ?g_NotBusy, ?ex_NotBusy, ?xc_NotBusy, ?g_BadAnswer, ?ex_BadAnswer, ?xc_BadAnswer, ?g_BadDay, ?ex_BadDay, ?xc_BadDay, ?g_DayOver, ?ex_DayOver, ?xc_DayOver, ?g_NoName, ?ex_NoName, ?xc_NoName, ?hi_HouseError, ?kall, ?khe, ?kval, ?knd, ?kho, ?d__law_pot, ?d__law_take, ?d__law_cells, ?d__law_kinds_too, ?d__law_kinds_more, ?d__law_of, ?d__law_made_too, ?d__law_made_more, ?d__law_kinds, ?d__law_odd, ?d__law_made, ?d__law_right, ?d_law⟩ hmg
    (case g_HouseError =>
      refine' PySem.W.mg_of KX Gm ?a
      (case a => k_is))
    (case g_BadValue =>
      refine' PySem.W.mg_of KX Gm ?a
      (case a => k_is))
    (case g_BadText =>
      refine' PySem.W.mg_of KX Gm ?a
      (case a => k_is))
    (case g_BadValues =>
      refine' PySem.W.mg_of KX Gm ?a
      (case a => k_is))
    (case g_BadDeed =>
      refine' PySem.W.mg_of KX Gm ?a
      (case a => k_is))
    (case g_BadPath =>
      refine' PySem.W.mg_of KX Gm ?a
      (case a => k_is))
    (case g_NoFile =>
      refine' PySem.W.mg_of KX Gm ?a
      (case a => k_is))
    (case g_BadDeeds =>
      refine' PySem.W.mg_of KX Gm ?a
      (case a => k_is))
    (case g_BadTree =>
      refine' PySem.W.mg_of KX Gm ?a
      (case a => k_is))
    (case g_BadName =>
      refine' PySem.W.mg_of KX Gm ?a
      (case a => k_is))
    (case g_BadNumber =>
      refine' PySem.W.mg_of KX Gm ?a
      (case a => k_is))
    (case g_BadSeal =>
      refine' PySem.W.mg_of KX Gm ?a
      (case a => k_is))
    (case g_OtherBody =>
      refine' PySem.W.mg_of KX Gm ?a
      (case a => k_is))
    (case g_NoBlock =>
      refine' PySem.W.mg_of KX Gm ?a
      (case a => k_is))
    (case g_BadRoot =>
      refine' PySem.W.mg_of KX Gm ?a
      (case a => k_is))
    (case g_BadKey =>
      refine' PySem.W.mg_of KX Gm ?a
      (case a => k_is))
    (case g_BadMap =>
      refine' PySem.W.mg_of KX Gm ?a
      (case a => k_is))
    (case g_NoKey =>
      refine' PySem.W.mg_of KX Gm ?a
      (case a => k_is))
    (case g_BadRows =>
      refine' PySem.W.mg_of KX Gm ?a
      (case a => k_is))
    (case g_BadFile =>
      refine' PySem.W.mg_of KX Gm ?a
      (case a => k_is))
    (case g_Beyond =>
      refine' PySem.W.mg_of KX Gm ?a
      (case a => k_is))
    (case g_TooLong =>
      refine' PySem.W.mg_of KX Gm ?a
      (case a => k_is))
    (case g_BadImage =>
      refine' PySem.W.mg_of KX Gm ?a
      (case a => k_is))
    (case g_BadSteps =>
      refine' PySem.W.mg_of KX Gm ?a
      (case a => k_is))
    (case g_BadChoices =>
      refine' PySem.W.mg_of KX Gm ?a
      (case a => k_is))
    (case g_TooFull =>
      refine' PySem.W.mg_of KX Gm ?a
      (case a => k_is))
    (case g_BadNames =>
      refine' PySem.W.mg_of KX Gm ?a
      (case a => k_is))
    (case g_BadPast =>
      refine' PySem.W.mg_of KX Gm ?a
      (case a => k_is))
    (case g_BadCounts =>
      refine' PySem.W.mg_of KX Gm ?a
      (case a => k_is))
    (case g_NoRow =>
      refine' PySem.W.mg_of KX Gm ?a
      (case a => k_is))
    (case g_NoDesk =>
      refine' PySem.W.mg_of KX Gm ?a
      (case a => k_is))
    (case g_NotOwn =>
      refine' PySem.W.mg_of KX Gm ?a
      (case a => k_is))
    (case g_TooMany =>
      refine' PySem.W.mg_of KX Gm ?a
      (case a => k_is))
    (case g_Cheated =>
      refine' PySem.W.mg_of KX Gm ?a
      (case a => k_is))
    (case g_Busy =>
      refine' PySem.W.mg_of KX Gm ?a
      (case a => k_is))
    (case g_NotOpen =>
      refine' PySem.W.mg_of KX Gm ?a
      (case a => k_is))
    (case g_BadRoots =>
      refine' PySem.W.mg_of KX Gm ?a
      (case a => k_is))
    (case g_Full =>
      refine' PySem.W.mg_of KX Gm ?a
      (case a => k_is))
    (case g_BadTellings =>
      refine' PySem.W.mg_of KX Gm ?a
      (case a => k_is))
    (case g_Never =>
      refine' PySem.W.mg_of KX Gm ?a
      (case a => k_is))
    (case g_BadEvents =>
      refine' PySem.W.mg_of KX Gm ?a
      (case a => k_is))
    (case g_BadRule =>
      refine' PySem.W.mg_of KX Gm ?a
      (case a => k_is))
    (case g_BadLine =>
      refine' PySem.W.mg_of KX Gm ?a
      (case a => k_is))
    (case g_NotBusy =>
      refine' PySem.W.mg_of KX Gm ?a
      (case a => k_is))
    (case g_BadAnswer =>
      refine' PySem.W.mg_of KX Gm ?a
      (case a => k_is))
    (case g_BadDay =>
      refine' PySem.W.mg_of KX Gm ?a
      (case a => k_is))
    (case g_DayOver =>
      refine' PySem.W.mg_of KX Gm ?a
      (case a => k_is))
    (case g_NoName =>
      refine' PySem.W.mg_of KX Gm ?a
      (case a => k_is))
    (case ex_HouseError =>
      refine' L3.Exn.of ?xL ?ini ?sa ?no ?kp ?sb ?ty ?ga ?gg ?hd ?bm ?dr ?ct
      (case xL => k_is)
      (case ini => k_is)
      (case sa => k_is)
      (case no => k_is)
      (case kp => k_is)
      (case sb => k_is)
      (case ty => k_is)
      (case ga => k_is)
      (case gg => k_is)
      (case hd => k_is)
      (case bm => decide +kernel)
      (case dr => rfl)
      (case ct => rfl))
    (case xc_HouseError =>
      as_aux_lemma =>
      refine' ⟨?a, ?b, ?c, ?d, ?e, ?f, ?g, ?h⟩
      (case a => k_is)
      (case b => k_is)
      (case c => k_is)
      (case d => k_is)
      (case e => k_is)
      (case f => k_is)
      (case g => k_is)
      (case h => k_is))
    (case ex_BadValue =>
      as_aux_lemma =>
      refine' L3.Exn.of ?xL ?ini ?sa ?no ?kp ?sb ?ty ?ga ?gg ?hd ?bm ?dr ?ct
      (case xL => k_is)
      (case ini => k_is)
      (case sa => k_is)
      (case no => k_is)
      (case kp => k_is)
      (case sb => k_is)
      (case ty => k_is)
      (case ga => k_is)
      (case gg => k_is)
      (case hd => k_is)
      (case bm => decide +kernel)
      (case dr => rfl)
      (case ct => rfl))
    (case xc_BadValue =>
      as_aux_lemma =>
      refine' ⟨?a, ?b, ?c, ?d, ?e, ?f, ?g, ?h⟩
      (case a => k_is)
      (case b => k_is)
      (case c => k_is)
      (case d => k_is)
      (case e => k_is)
      (case f => k_is)
      (case g => k_is)
      (case h => k_is))
    (case ex_BadText =>
      as_aux_lemma =>
      refine' L3.Exn.of ?xL ?ini ?sa ?no ?kp ?sb ?ty ?ga ?gg ?hd ?bm ?dr ?ct
      (case xL => k_is)
      (case ini => k_is)
      (case sa => k_is)
      (case no => k_is)
      (case kp => k_is)
      (case sb => k_is)
      (case ty => k_is)
      (case ga => k_is)
      (case gg => k_is)
      (case hd => k_is)
      (case bm => decide +kernel)
      (case dr => rfl)
      (case ct => rfl))
    (case xc_BadText =>
      as_aux_lemma =>
      refine' ⟨?a, ?b, ?c, ?d, ?e, ?f, ?g, ?h⟩
      (case a => k_is)
      (case b => k_is)
      (case c => k_is)
      (case d => k_is)
      (case e => k_is)
      (case f => k_is)
      (case g => k_is)
      (case h => k_is))
    (case ex_BadValues =>
      as_aux_lemma =>
      refine' L3.Exn.of ?xL ?ini ?sa ?no ?kp ?sb ?ty ?ga ?gg ?hd ?bm ?dr ?ct
      (case xL => k_is)
      (case ini => k_is)
      (case sa => k_is)
      (case no => k_is)
      (case kp => k_is)
      (case sb => k_is)
      (case ty => k_is)
      (case ga => k_is)
      (case gg => k_is)
      (case hd => k_is)
      (case bm => decide +kernel)
      (case dr => rfl)
      (case ct => rfl))
    (case xc_BadValues =>
      as_aux_lemma =>
      refine' ⟨?a, ?b, ?c, ?d, ?e, ?f, ?g, ?h⟩
      (case a => k_is)
      (case b => k_is)
      (case c => k_is)
      (case d => k_is)
      (case e => k_is)
      (case f => k_is)
      (case g => k_is)
      (case h => k_is))
    (case ex_BadDeed =>
      as_aux_lemma =>
      refine' L3.Exn.of ?xL ?ini ?sa ?no ?kp ?sb ?ty ?ga ?gg ?hd ?bm ?dr ?ct
      (case xL => k_is)
      (case ini => k_is)
      (case sa => k_is)
      (case no => k_is)
      (case kp => k_is)
      (case sb => k_is)
      (case ty => k_is)
      (case ga => k_is)
      (case gg => k_is)
      (case hd => k_is)
      (case bm => decide +kernel)
      (case dr => rfl)
      (case ct => rfl))
    (case xc_BadDeed =>
      as_aux_lemma =>
      refine' ⟨?a, ?b, ?c, ?d, ?e, ?f, ?g, ?h⟩
      (case a => k_is)
      (case b => k_is)
      (case c => k_is)
      (case d => k_is)
      (case e => k_is)
      (case f => k_is)
      (case g => k_is)
      (case h => k_is))
    (case ex_BadPath =>
      as_aux_lemma =>
      refine' L3.Exn.of ?xL ?ini ?sa ?no ?kp ?sb ?ty ?ga ?gg ?hd ?bm ?dr ?ct
      (case xL => k_is)
      (case ini => k_is)
      (case sa => k_is)
      (case no => k_is)
      (case kp => k_is)
      (case sb => k_is)
      (case ty => k_is)
      (case ga => k_is)
      (case gg => k_is)
      (case hd => k_is)
      (case bm => decide +kernel)
      (case dr => rfl)
      (case ct => rfl))
    (case xc_BadPath =>
      as_aux_lemma =>
      refine' ⟨?a, ?b, ?c, ?d, ?e, ?f, ?g, ?h⟩
      (case a => k_is)
      (case b => k_is)
      (case c => k_is)
      (case d => k_is)
      (case e => k_is)
      (case f => k_is)
      (case g => k_is)
      (case h => k_is))
    (case ex_NoFile =>
      as_aux_lemma =>
      refine' L3.Exn.of ?xL ?ini ?sa ?no ?kp ?sb ?ty ?ga ?gg ?hd ?bm ?dr ?ct
      (case xL => k_is)
      (case ini => k_is)
      (case sa => k_is)
      (case no => k_is)
      (case kp => k_is)
      (case sb => k_is)
      (case ty => k_is)
      (case ga => k_is)
      (case gg => k_is)
      (case hd => k_is)
      (case bm => decide +kernel)
      (case dr => rfl)
      (case ct => rfl))
    (case xc_NoFile =>
      as_aux_lemma =>
      refine' ⟨?a, ?b, ?c, ?d, ?e, ?f, ?g, ?h⟩
      (case a => k_is)
      (case b => k_is)
      (case c => k_is)
      (case d => k_is)
      (case e => k_is)
      (case f => k_is)
      (case g => k_is)
      (case h => k_is))
    (case ex_BadDeeds =>
      as_aux_lemma =>
      refine' L3.Exn.of ?xL ?ini ?sa ?no ?kp ?sb ?ty ?ga ?gg ?hd ?bm ?dr ?ct
      (case xL => k_is)
      (case ini => k_is)
      (case sa => k_is)
      (case no => k_is)
      (case kp => k_is)
      (case sb => k_is)
      (case ty => k_is)
      (case ga => k_is)
      (case gg => k_is)
      (case hd => k_is)
      (case bm => decide +kernel)
      (case dr => rfl)
      (case ct => rfl))
    (case xc_BadDeeds =>
      as_aux_lemma =>
      refine' ⟨?a, ?b, ?c, ?d, ?e, ?f, ?g, ?h⟩
      (case a => k_is)
      (case b => k_is)
      (case c => k_is)
      (case d => k_is)
      (case e => k_is)
      (case f => k_is)
      (case g => k_is)
      (case h => k_is))
    (case ex_BadTree =>
      as_aux_lemma =>
      refine' L3.Exn.of ?xL ?ini ?sa ?no ?kp ?sb ?ty ?ga ?gg ?hd ?bm ?dr ?ct
      (case xL => k_is)
      (case ini => k_is)
      (case sa => k_is)
      (case no => k_is)
      (case kp => k_is)
      (case sb => k_is)
      (case ty => k_is)
      (case ga => k_is)
      (case gg => k_is)
      (case hd => k_is)
      (case bm => decide +kernel)
      (case dr => rfl)
      (case ct => rfl))
    (case xc_BadTree =>
      as_aux_lemma =>
      refine' ⟨?a, ?b, ?c, ?d, ?e, ?f, ?g, ?h⟩
      (case a => k_is)
      (case b => k_is)
      (case c => k_is)
      (case d => k_is)
      (case e => k_is)
      (case f => k_is)
      (case g => k_is)
      (case h => k_is))
    (case ex_BadName =>
      as_aux_lemma =>
      refine' L3.Exn.of ?xL ?ini ?sa ?no ?kp ?sb ?ty ?ga ?gg ?hd ?bm ?dr ?ct
      (case xL => k_is)
      (case ini => k_is)
      (case sa => k_is)
      (case no => k_is)
      (case kp => k_is)
      (case sb => k_is)
      (case ty => k_is)
      (case ga => k_is)
      (case gg => k_is)
      (case hd => k_is)
      (case bm => decide +kernel)
      (case dr => rfl)
      (case ct => rfl))
    (case xc_BadName =>
      as_aux_lemma =>
      refine' ⟨?a, ?b, ?c, ?d, ?e, ?f, ?g, ?h⟩
      (case a => k_is)
      (case b => k_is)
      (case c => k_is)
      (case d => k_is)
      (case e => k_is)
      (case f => k_is)
      (case g => k_is)
      (case h => k_is))
    (case ex_BadNumber =>
      as_aux_lemma =>
      refine' L3.Exn.of ?xL ?ini ?sa ?no ?kp ?sb ?ty ?ga ?gg ?hd ?bm ?dr ?ct
      (case xL => k_is)
      (case ini => k_is)
      (case sa => k_is)
      (case no => k_is)
      (case kp => k_is)
      (case sb => k_is)
      (case ty => k_is)
      (case ga => k_is)
      (case gg => k_is)
      (case hd => k_is)
      (case bm => decide +kernel)
      (case dr => rfl)
      (case ct => rfl))
    (case xc_BadNumber =>
      as_aux_lemma =>
      refine' ⟨?a, ?b, ?c, ?d, ?e, ?f, ?g, ?h⟩
      (case a => k_is)
      (case b => k_is)
      (case c => k_is)
      (case d => k_is)
      (case e => k_is)
      (case f => k_is)
      (case g => k_is)
      (case h => k_is))
    (case ex_BadSeal =>
      as_aux_lemma =>
      refine' L3.Exn.of ?xL ?ini ?sa ?no ?kp ?sb ?ty ?ga ?gg ?hd ?bm ?dr ?ct
      (case xL => k_is)
      (case ini => k_is)
      (case sa => k_is)
      (case no => k_is)
      (case kp => k_is)
      (case sb => k_is)
      (case ty => k_is)
      (case ga => k_is)
      (case gg => k_is)
      (case hd => k_is)
      (case bm => decide +kernel)
      (case dr => rfl)
      (case ct => rfl))
    (case xc_BadSeal =>
      as_aux_lemma =>
      refine' ⟨?a, ?b, ?c, ?d, ?e, ?f, ?g, ?h⟩
      (case a => k_is)
      (case b => k_is)
      (case c => k_is)
      (case d => k_is)
      (case e => k_is)
      (case f => k_is)
      (case g => k_is)
      (case h => k_is))
    (case ex_OtherBody =>
      as_aux_lemma =>
      refine' L3.Exn.of ?xL ?ini ?sa ?no ?kp ?sb ?ty ?ga ?gg ?hd ?bm ?dr ?ct
      (case xL => k_is)
      (case ini => k_is)
      (case sa => k_is)
      (case no => k_is)
      (case kp => k_is)
      (case sb => k_is)
      (case ty => k_is)
      (case ga => k_is)
      (case gg => k_is)
      (case hd => k_is)
      (case bm => decide +kernel)
      (case dr => rfl)
      (case ct => rfl))
    (case xc_OtherBody =>
      as_aux_lemma =>
      refine' ⟨?a, ?b, ?c, ?d, ?e, ?f, ?g, ?h⟩
      (case a => k_is)
      (case b => k_is)
      (case c => k_is)
      (case d => k_is)
      (case e => k_is)
      (case f => k_is)
      (case g => k_is)
      (case h => k_is))
    (case ex_NoBlock =>
      as_aux_lemma =>
      refine' L3.Exn.of ?xL ?ini ?sa ?no ?kp ?sb ?ty ?ga ?gg ?hd ?bm ?dr ?ct
      (case xL => k_is)
      (case ini => k_is)
      (case sa => k_is)
      (case no => k_is)
      (case kp => k_is)
      (case sb => k_is)
      (case ty => k_is)
      (case ga => k_is)
      (case gg => k_is)
      (case hd => k_is)
      (case bm => decide +kernel)
      (case dr => rfl)
      (case ct => rfl))
    (case xc_NoBlock =>
      as_aux_lemma =>
      refine' ⟨?a, ?b, ?c, ?d, ?e, ?f, ?g, ?h⟩
      (case a => k_is)
      (case b => k_is)
      (case c => k_is)
      (case d => k_is)
      (case e => k_is)
      (case f => k_is)
      (case g => k_is)
      (case h => k_is))
    (case ex_BadRoot =>
      as_aux_lemma =>
      refine' L3.Exn.of ?xL ?ini ?sa ?no ?kp ?sb ?ty ?ga ?gg ?hd ?bm ?dr ?ct
      (case xL => k_is)
      (case ini => k_is)
      (case sa => k_is)
      (case no => k_is)
      (case kp => k_is)
      (case sb => k_is)
      (case ty => k_is)
      (case ga => k_is)
      (case gg => k_is)
      (case hd => k_is)
      (case bm => decide +kernel)
      (case dr => rfl)
      (case ct => rfl))
    (case xc_BadRoot =>
      as_aux_lemma =>
      refine' ⟨?a, ?b, ?c, ?d, ?e, ?f, ?g, ?h⟩
      (case a => k_is)
      (case b => k_is)
      (case c => k_is)
      (case d => k_is)
      (case e => k_is)
      (case f => k_is)
      (case g => k_is)
      (case h => k_is))
    (case ex_BadKey =>
      as_aux_lemma =>
      refine' L3.Exn.of ?xL ?ini ?sa ?no ?kp ?sb ?ty ?ga ?gg ?hd ?bm ?dr ?ct
      (case xL => k_is)
      (case ini => k_is)
      (case sa => k_is)
      (case no => k_is)
      (case kp => k_is)
      (case sb => k_is)
      (case ty => k_is)
      (case ga => k_is)
      (case gg => k_is)
      (case hd => k_is)
      (case bm => decide +kernel)
      (case dr => rfl)
      (case ct => rfl))
    (case xc_BadKey =>
      as_aux_lemma =>
      refine' ⟨?a, ?b, ?c, ?d, ?e, ?f, ?g, ?h⟩
      (case a => k_is)
      (case b => k_is)
      (case c => k_is)
      (case d => k_is)
      (case e => k_is)
      (case f => k_is)
      (case g => k_is)
      (case h => k_is))
    (case ex_BadMap =>
      as_aux_lemma =>
      refine' L3.Exn.of ?xL ?ini ?sa ?no ?kp ?sb ?ty ?ga ?gg ?hd ?bm ?dr ?ct
      (case xL => k_is)
      (case ini => k_is)
      (case sa => k_is)
      (case no => k_is)
      (case kp => k_is)
      (case sb => k_is)
      (case ty => k_is)
      (case ga => k_is)
      (case gg => k_is)
      (case hd => k_is)
      (case bm => decide +kernel)
      (case dr => rfl)
      (case ct => rfl))
    (case xc_BadMap =>
      as_aux_lemma =>
      refine' ⟨?a, ?b, ?c, ?d, ?e, ?f, ?g, ?h⟩
      (case a => k_is)
      (case b => k_is)
      (case c => k_is)
      (case d => k_is)
      (case e => k_is)
      (case f => k_is)
      (case g => k_is)
      (case h => k_is))
    (case ex_NoKey =>
      as_aux_lemma =>
      refine' L3.Exn.of ?xL ?ini ?sa ?no ?kp ?sb ?ty ?ga ?gg ?hd ?bm ?dr ?ct
      (case xL => k_is)
      (case ini => k_is)
      (case sa => k_is)
      (case no => k_is)
      (case kp => k_is)
      (case sb => k_is)
      (case ty => k_is)
      (case ga => k_is)
      (case gg => k_is)
      (case hd => k_is)
      (case bm => decide +kernel)
      (case dr => rfl)
      (case ct => rfl))
    (case xc_NoKey =>
      as_aux_lemma =>
      refine' ⟨?a, ?b, ?c, ?d, ?e, ?f, ?g, ?h⟩
      (case a => k_is)
      (case b => k_is)
      (case c => k_is)
      (case d => k_is)
      (case e => k_is)
      (case f => k_is)
      (case g => k_is)
      (case h => k_is))
    (case ex_BadRows =>
      as_aux_lemma =>
      refine' L3.Exn.of ?xL ?ini ?sa ?no ?kp ?sb ?ty ?ga ?gg ?hd ?bm ?dr ?ct
      (case xL => k_is)
      (case ini => k_is)
      (case sa => k_is)
      (case no => k_is)
      (case kp => k_is)
      (case sb => k_is)
      (case ty => k_is)
      (case ga => k_is)
      (case gg => k_is)
      (case hd => k_is)
      (case bm => decide +kernel)
      (case dr => rfl)
      (case ct => rfl))
    (case xc_BadRows =>
      as_aux_lemma =>
      refine' ⟨?a, ?b, ?c, ?d, ?e, ?f, ?g, ?h⟩
      (case a => k_is)
      (case b => k_is)
      (case c => k_is)
      (case d => k_is)
      (case e => k_is)
      (case f => k_is)
      (case g => k_is)
      (case h => k_is))
    (case ex_BadFile =>
      as_aux_lemma =>
      refine' L3.Exn.of ?xL ?ini ?sa ?no ?kp ?sb ?ty ?ga ?gg ?hd ?bm ?dr ?ct
      (case xL => k_is)
      (case ini => k_is)
      (case sa => k_is)
      (case no => k_is)
      (case kp => k_is)
      (case sb => k_is)
      (case ty => k_is)
      (case ga => k_is)
      (case gg => k_is)
      (case hd => k_is)
      (case bm => decide +kernel)
      (case dr => rfl)
      (case ct => rfl))
    (case xc_BadFile =>
      as_aux_lemma =>
      refine' ⟨?a, ?b, ?c, ?d, ?e, ?f, ?g, ?h⟩
      (case a => k_is)
      (case b => k_is)
      (case c => k_is)
      (case d => k_is)
      (case e => k_is)
      (case f => k_is)
      (case g => k_is)
      (case h => k_is))
    (case ex_Beyond =>
      as_aux_lemma =>
      refine' L3.Exn.of ?xL ?ini ?sa ?no ?kp ?sb ?ty ?ga ?gg ?hd ?bm ?dr ?ct
      (case xL => k_is)
      (case ini => k_is)
      (case sa => k_is)
      (case no => k_is)
      (case kp => k_is)
      (case sb => k_is)
      (case ty => k_is)
      (case ga => k_is)
      (case gg => k_is)
      (case hd => k_is)
      (case bm => decide +kernel)
      (case dr => rfl)
      (case ct => rfl))
    (case xc_Beyond =>
      as_aux_lemma =>
      refine' ⟨?a, ?b, ?c, ?d, ?e, ?f, ?g, ?h⟩
      (case a => k_is)
      (case b => k_is)
      (case c => k_is)
      (case d => k_is)
      (case e => k_is)
      (case f => k_is)
      (case g => k_is)
      (case h => k_is))
    (case ex_TooLong =>
      as_aux_lemma =>
      refine' L3.Exn.of ?xL ?ini ?sa ?no ?kp ?sb ?ty ?ga ?gg ?hd ?bm ?dr ?ct
      (case xL => k_is)
      (case ini => k_is)
      (case sa => k_is)
      (case no => k_is)
      (case kp => k_is)
      (case sb => k_is)
      (case ty => k_is)
      (case ga => k_is)
      (case gg => k_is)
      (case hd => k_is)
      (case bm => decide +kernel)
      (case dr => rfl)
      (case ct => rfl))
    (case xc_TooLong =>
      as_aux_lemma =>
      refine' ⟨?a, ?b, ?c, ?d, ?e, ?f, ?g, ?h⟩
      (case a => k_is)
      (case b => k_is)
      (case c => k_is)
      (case d => k_is)
      (case e => k_is)
      (case f => k_is)
      (case g => k_is)
      (case h => k_is))
    (case ex_BadImage =>
      as_aux_lemma =>
      refine' L3.Exn.of ?xL ?ini ?sa ?no ?kp ?sb ?ty ?ga ?gg ?hd ?bm ?dr ?ct
      (case xL => k_is)
      (case ini => k_is)
      (case sa => k_is)
      (case no => k_is)
      (case kp => k_is)
      (case sb => k_is)
      (case ty => k_is)
      (case ga => k_is)
      (case gg => k_is)
      (case hd => k_is)
      (case bm => decide +kernel)
      (case dr => rfl)
      (case ct => rfl))
    (case xc_BadImage =>
      as_aux_lemma =>
      refine' ⟨?a, ?b, ?c, ?d, ?e, ?f, ?g, ?h⟩
      (case a => k_is)
      (case b => k_is)
      (case c => k_is)
      (case d => k_is)
      (case e => k_is)
      (case f => k_is)
      (case g => k_is)
      (case h => k_is))
    (case ex_BadSteps =>
      as_aux_lemma =>
      refine' L3.Exn.of ?xL ?ini ?sa ?no ?kp ?sb ?ty ?ga ?gg ?hd ?bm ?dr ?ct
      (case xL => k_is)
      (case ini => k_is)
      (case sa => k_is)
      (case no => k_is)
      (case kp => k_is)
      (case sb => k_is)
      (case ty => k_is)
      (case ga => k_is)
      (case gg => k_is)
      (case hd => k_is)
      (case bm => decide +kernel)
      (case dr => rfl)
      (case ct => rfl))
    (case xc_BadSteps =>
      as_aux_lemma =>
      refine' ⟨?a, ?b, ?c, ?d, ?e, ?f, ?g, ?h⟩
      (case a => k_is)
      (case b => k_is)
      (case c => k_is)
      (case d => k_is)
      (case e => k_is)
      (case f => k_is)
      (case g => k_is)
      (case h => k_is))
    (case ex_BadChoices =>
      as_aux_lemma =>
      refine' L3.Exn.of ?xL ?ini ?sa ?no ?kp ?sb ?ty ?ga ?gg ?hd ?bm ?dr ?ct
      (case xL => k_is)
      (case ini => k_is)
      (case sa => k_is)
      (case no => k_is)
      (case kp => k_is)
      (case sb => k_is)
      (case ty => k_is)
      (case ga => k_is)
      (case gg => k_is)
      (case hd => k_is)
      (case bm => decide +kernel)
      (case dr => rfl)
      (case ct => rfl))
    (case xc_BadChoices =>
      as_aux_lemma =>
      refine' ⟨?a, ?b, ?c, ?d, ?e, ?f, ?g, ?h⟩
      (case a => k_is)
      (case b => k_is)
      (case c => k_is)
      (case d => k_is)
      (case e => k_is)
      (case f => k_is)
      (case g => k_is)
      (case h => k_is))
    (case ex_TooFull =>
      as_aux_lemma =>
      refine' L3.Exn.of ?xL ?ini ?sa ?no ?kp ?sb ?ty ?ga ?gg ?hd ?bm ?dr ?ct
      (case xL => k_is)
      (case ini => k_is)
      (case sa => k_is)
      (case no => k_is)
      (case kp => k_is)
      (case sb => k_is)
      (case ty => k_is)
      (case ga => k_is)
      (case gg => k_is)
      (case hd => k_is)
      (case bm => decide +kernel)
      (case dr => rfl)
      (case ct => rfl))
    (case xc_TooFull =>
      as_aux_lemma =>
      refine' ⟨?a, ?b, ?c, ?d, ?e, ?f, ?g, ?h⟩
      (case a => k_is)
      (case b => k_is)
      (case c => k_is)
      (case d => k_is)
      (case e => k_is)
      (case f => k_is)
      (case g => k_is)
      (case h => k_is))
    (case ex_BadNames =>
      as_aux_lemma =>
      refine' L3.Exn.of ?xL ?ini ?sa ?no ?kp ?sb ?ty ?ga ?gg ?hd ?bm ?dr ?ct
      (case xL => k_is)
      (case ini => k_is)
      (case sa => k_is)
      (case no => k_is)
      (case kp => k_is)
      (case sb => k_is)
      (case ty => k_is)
      (case ga => k_is)
      (case gg => k_is)
      (case hd => k_is)
      (case bm => decide +kernel)
      (case dr => rfl)
      (case ct => rfl))
    (case xc_BadNames =>
      as_aux_lemma =>
      refine' ⟨?a, ?b, ?c, ?d, ?e, ?f, ?g, ?h⟩
      (case a => k_is)
      (case b => k_is)
      (case c => k_is)
      (case d => k_is)
      (case e => k_is)
      (case f => k_is)
      (case g => k_is)
      (case h => k_is))
    (case ex_BadPast =>
      as_aux_lemma =>
      refine' L3.Exn.of ?xL ?ini ?sa ?no ?kp ?sb ?ty ?ga ?gg ?hd ?bm ?dr ?ct
      (case xL => k_is)
      (case ini => k_is)
      (case sa => k_is)
      (case no => k_is)
      (case kp => k_is)
      (case sb => k_is)
      (case ty => k_is)
      (case ga => k_is)
      (case gg => k_is)
      (case hd => k_is)
      (case bm => decide +kernel)
      (case dr => rfl)
      (case ct => rfl))
    (case xc_BadPast =>
      as_aux_lemma =>
      refine' ⟨?a, ?b, ?c, ?d, ?e, ?f, ?g, ?h⟩
      (case a => k_is)
      (case b => k_is)
      (case c => k_is)
      (case d => k_is)
      (case e => k_is)
      (case f => k_is)
      (case g => k_is)
      (case h => k_is))
    (case ex_BadCounts =>
      as_aux_lemma =>
      refine' L3.Exn.of ?xL ?ini ?sa ?no ?kp ?sb ?ty ?ga ?gg ?hd ?bm ?dr ?ct
      (case xL => k_is)
      (case ini => k_is)
      (case sa => k_is)
      (case no => k_is)
      (case kp => k_is)
      (case sb => k_is)
      (case ty => k_is)
      (case ga => k_is)
      (case gg => k_is)
      (case hd => k_is)
      (case bm => decide +kernel)
      (case dr => rfl)
      (case ct => rfl))
    (case xc_BadCounts =>
      as_aux_lemma =>
      refine' ⟨?a, ?b, ?c, ?d, ?e, ?f, ?g, ?h⟩
      (case a => k_is)
      (case b => k_is)
      (case c => k_is)
      (case d => k_is)
      (case e => k_is)
      (case f => k_is)
      (case g => k_is)
      (case h => k_is))
    (case ex_NoRow =>
      as_aux_lemma =>
      refine' L3.Exn.of ?xL ?ini ?sa ?no ?kp ?sb ?ty ?ga ?gg ?hd ?bm ?dr ?ct
      (case xL => k_is)
      (case ini => k_is)
      (case sa => k_is)
      (case no => k_is)
      (case kp => k_is)
      (case sb => k_is)
      (case ty => k_is)
      (case ga => k_is)
      (case gg => k_is)
      (case hd => k_is)
      (case bm => decide +kernel)
      (case dr => rfl)
      (case ct => rfl))
    (case xc_NoRow =>
      as_aux_lemma =>
      refine' ⟨?a, ?b, ?c, ?d, ?e, ?f, ?g, ?h⟩
      (case a => k_is)
      (case b => k_is)
      (case c => k_is)
      (case d => k_is)
      (case e => k_is)
      (case f => k_is)
      (case g => k_is)
      (case h => k_is))
    (case ex_NoDesk =>
      as_aux_lemma =>
      refine' L3.Exn.of ?xL ?ini ?sa ?no ?kp ?sb ?ty ?ga ?gg ?hd ?bm ?dr ?ct
      (case xL => k_is)
      (case ini => k_is)
      (case sa => k_is)
      (case no => k_is)
      (case kp => k_is)
      (case sb => k_is)
      (case ty => k_is)
      (case ga => k_is)
      (case gg => k_is)
      (case hd => k_is)
      (case bm => decide +kernel)
      (case dr => rfl)
      (case ct => rfl))
    (case xc_NoDesk =>
      as_aux_lemma =>
      refine' ⟨?a, ?b, ?c, ?d, ?e, ?f, ?g, ?h⟩
      (case a => k_is)
      (case b => k_is)
      (case c => k_is)
      (case d => k_is)
      (case e => k_is)
      (case f => k_is)
      (case g => k_is)
      (case h => k_is))
    (case ex_NotOwn =>
      as_aux_lemma =>
      refine' L3.Exn.of ?xL ?ini ?sa ?no ?kp ?sb ?ty ?ga ?gg ?hd ?bm ?dr ?ct
      (case xL => k_is)
      (case ini => k_is)
      (case sa => k_is)
      (case no => k_is)
      (case kp => k_is)
      (case sb => k_is)
      (case ty => k_is)
      (case ga => k_is)
      (case gg => k_is)
      (case hd => k_is)
      (case bm => decide +kernel)
      (case dr => rfl)
      (case ct => rfl))
    (case xc_NotOwn =>
      as_aux_lemma =>
      refine' ⟨?a, ?b, ?c, ?d, ?e, ?f, ?g, ?h⟩
      (case a => k_is)
      (case b => k_is)
      (case c => k_is)
      (case d => k_is)
      (case e => k_is)
      (case f => k_is)
      (case g => k_is)
      (case h => k_is))
    (case ex_TooMany =>
      as_aux_lemma =>
      refine' L3.Exn.of ?xL ?ini ?sa ?no ?kp ?sb ?ty ?ga ?gg ?hd ?bm ?dr ?ct
      (case xL => k_is)
      (case ini => k_is)
      (case sa => k_is)
      (case no => k_is)
      (case kp => k_is)
      (case sb => k_is)
      (case ty => k_is)
      (case ga => k_is)
      (case gg => k_is)
      (case hd => k_is)
      (case bm => decide +kernel)
      (case dr => rfl)
      (case ct => rfl))
    (case xc_TooMany =>
      as_aux_lemma =>
      refine' ⟨?a, ?b, ?c, ?d, ?e, ?f, ?g, ?h⟩
      (case a => k_is)
      (case b => k_is)
      (case c => k_is)
      (case d => k_is)
      (case e => k_is)
      (case f => k_is)
      (case g => k_is)
      (case h => k_is))
    (case ex_Cheated =>
      as_aux_lemma =>
      refine' L3.Exn.of ?xL ?ini ?sa ?no ?kp ?sb ?ty ?ga ?gg ?hd ?bm ?dr ?ct
      (case xL => k_is)
      (case ini => k_is)
      (case sa => k_is)
      (case no => k_is)
      (case kp => k_is)
      (case sb => k_is)
      (case ty => k_is)
      (case ga => k_is)
      (case gg => k_is)
      (case hd => k_is)
      (case bm => decide +kernel)
      (case dr => rfl)
      (case ct => rfl))
    (case xc_Cheated =>
      as_aux_lemma =>
      refine' ⟨?a, ?b, ?c, ?d, ?e, ?f, ?g, ?h⟩
      (case a => k_is)
      (case b => k_is)
      (case c => k_is)
      (case d => k_is)
      (case e => k_is)
      (case f => k_is)
      (case g => k_is)
      (case h => k_is))
    (case ex_Busy =>
      as_aux_lemma =>
      refine' L3.Exn.of ?xL ?ini ?sa ?no ?kp ?sb ?ty ?ga ?gg ?hd ?bm ?dr ?ct
      (case xL => k_is)
      (case ini => k_is)
      (case sa => k_is)
      (case no => k_is)
      (case kp => k_is)
      (case sb => k_is)
      (case ty => k_is)
      (case ga => k_is)
      (case gg => k_is)
      (case hd => k_is)
      (case bm => decide +kernel)
      (case dr => rfl)
      (case ct => rfl))
    (case xc_Busy =>
      as_aux_lemma =>
      refine' ⟨?a, ?b, ?c, ?d, ?e, ?f, ?g, ?h⟩
      (case a => k_is)
      (case b => k_is)
      (case c => k_is)
      (case d => k_is)
      (case e => k_is)
      (case f => k_is)
      (case g => k_is)
      (case h => k_is))
    (case ex_NotOpen =>
      as_aux_lemma =>
      refine' L3.Exn.of ?xL ?ini ?sa ?no ?kp ?sb ?ty ?ga ?gg ?hd ?bm ?dr ?ct
      (case xL => k_is)
      (case ini => k_is)
      (case sa => k_is)
      (case no => k_is)
      (case kp => k_is)
      (case sb => k_is)
      (case ty => k_is)
      (case ga => k_is)
      (case gg => k_is)
      (case hd => k_is)
      (case bm => decide +kernel)
      (case dr => rfl)
      (case ct => rfl))
    (case xc_NotOpen =>
      as_aux_lemma =>
      refine' ⟨?a, ?b, ?c, ?d, ?e, ?f, ?g, ?h⟩
      (case a => k_is)
      (case b => k_is)
      (case c => k_is)
      (case d => k_is)
      (case e => k_is)
      (case f => k_is)
      (case g => k_is)
      (case h => k_is))
    (case ex_BadRoots =>
      as_aux_lemma =>
      refine' L3.Exn.of ?xL ?ini ?sa ?no ?kp ?sb ?ty ?ga ?gg ?hd ?bm ?dr ?ct
      (case xL => k_is)
      (case ini => k_is)
      (case sa => k_is)
      (case no => k_is)
      (case kp => k_is)
      (case sb => k_is)
      (case ty => k_is)
      (case ga => k_is)
      (case gg => k_is)
      (case hd => k_is)
      (case bm => decide +kernel)
      (case dr => rfl)
      (case ct => rfl))
    (case xc_BadRoots =>
      as_aux_lemma =>
      refine' ⟨?a, ?b, ?c, ?d, ?e, ?f, ?g, ?h⟩
      (case a => k_is)
      (case b => k_is)
      (case c => k_is)
      (case d => k_is)
      (case e => k_is)
      (case f => k_is)
      (case g => k_is)
      (case h => k_is))
    (case ex_Full =>
      as_aux_lemma =>
      refine' L3.Exn.of ?xL ?ini ?sa ?no ?kp ?sb ?ty ?ga ?gg ?hd ?bm ?dr ?ct
      (case xL => k_is)
      (case ini => k_is)
      (case sa => k_is)
      (case no => k_is)
      (case kp => k_is)
      (case sb => k_is)
      (case ty => k_is)
      (case ga => k_is)
      (case gg => k_is)
      (case hd => k_is)
      (case bm => decide +kernel)
      (case dr => rfl)
      (case ct => rfl))
    (case xc_Full =>
      as_aux_lemma =>
      refine' ⟨?a, ?b, ?c, ?d, ?e, ?f, ?g, ?h⟩
      (case a => k_is)
      (case b => k_is)
      (case c => k_is)
      (case d => k_is)
      (case e => k_is)
      (case f => k_is)
      (case g => k_is)
      (case h => k_is))
    (case ex_BadTellings =>
      as_aux_lemma =>
      refine' L3.Exn.of ?xL ?ini ?sa ?no ?kp ?sb ?ty ?ga ?gg ?hd ?bm ?dr ?ct
      (case xL => k_is)
      (case ini => k_is)
      (case sa => k_is)
      (case no => k_is)
      (case kp => k_is)
      (case sb => k_is)
      (case ty => k_is)
      (case ga => k_is)
      (case gg => k_is)
      (case hd => k_is)
      (case bm => decide +kernel)
      (case dr => rfl)
      (case ct => rfl))
    (case xc_BadTellings =>
      as_aux_lemma =>
      refine' ⟨?a, ?b, ?c, ?d, ?e, ?f, ?g, ?h⟩
      (case a => k_is)
      (case b => k_is)
      (case c => k_is)
      (case d => k_is)
      (case e => k_is)
      (case f => k_is)
      (case g => k_is)
      (case h => k_is))
    (case ex_Never =>
      as_aux_lemma =>
      refine' L3.Exn.of ?xL ?ini ?sa ?no ?kp ?sb ?ty ?ga ?gg ?hd ?bm ?dr ?ct
      (case xL => k_is)
      (case ini => k_is)
      (case sa => k_is)
      (case no => k_is)
      (case kp => k_is)
      (case sb => k_is)
      (case ty => k_is)
      (case ga => k_is)
      (case gg => k_is)
      (case hd => k_is)
      (case bm => decide +kernel)
      (case dr => rfl)
      (case ct => rfl))
    (case xc_Never =>
      as_aux_lemma =>
      refine' ⟨?a, ?b, ?c, ?d, ?e, ?f, ?g, ?h⟩
      (case a => k_is)
      (case b => k_is)
      (case c => k_is)
      (case d => k_is)
      (case e => k_is)
      (case f => k_is)
      (case g => k_is)
      (case h => k_is))
    (case ex_BadEvents =>
      as_aux_lemma =>
      refine' L3.Exn.of ?xL ?ini ?sa ?no ?kp ?sb ?ty ?ga ?gg ?hd ?bm ?dr ?ct
      (case xL => k_is)
      (case ini => k_is)
      (case sa => k_is)
      (case no => k_is)
      (case kp => k_is)
      (case sb => k_is)
      (case ty => k_is)
      (case ga => k_is)
      (case gg => k_is)
      (case hd => k_is)
      (case bm => decide +kernel)
      (case dr => rfl)
      (case ct => rfl))
    (case xc_BadEvents =>
      as_aux_lemma =>
      refine' ⟨?a, ?b, ?c, ?d, ?e, ?f, ?g, ?h⟩
      (case a => k_is)
      (case b => k_is)
      (case c => k_is)
      (case d => k_is)
      (case e => k_is)
      (case f => k_is)
      (case g => k_is)
      (case h => k_is))
    (case ex_BadRule =>
      as_aux_lemma =>
      refine' L3.Exn.of ?xL ?ini ?sa ?no ?kp ?sb ?ty ?ga ?gg ?hd ?bm ?dr ?ct
      (case xL => k_is)
      (case ini => k_is)
      (case sa => k_is)
      (case no => k_is)
      (case kp => k_is)
      (case sb => k_is)
      (case ty => k_is)
      (case ga => k_is)
      (case gg => k_is)
      (case hd => k_is)
      (case bm => decide +kernel)
      (case dr => rfl)
      (case ct => rfl))
    (case xc_BadRule =>
      as_aux_lemma =>
      refine' ⟨?a, ?b, ?c, ?d, ?e, ?f, ?g, ?h⟩
      (case a => k_is)
      (case b => k_is)
      (case c => k_is)
      (case d => k_is)
      (case e => k_is)
      (case f => k_is)
      (case g => k_is)
      (case h => k_is))
    (case ex_BadLine =>
      as_aux_lemma =>
      refine' L3.Exn.of ?xL ?ini ?sa ?no ?kp ?sb ?ty ?ga ?gg ?hd ?bm ?dr ?ct
      (case xL => k_is)
      (case ini => k_is)
      (case sa => k_is)
      (case no => k_is)
      (case kp => k_is)
      (case sb => k_is)
      (case ty => k_is)
      (case ga => k_is)
      (case gg => k_is)
      (case hd => k_is)
      (case bm => decide +kernel)
      (case dr => rfl)
      (case ct => rfl))
    (case xc_BadLine =>
      as_aux_lemma =>
      refine' ⟨?a, ?b, ?c, ?d, ?e, ?f, ?g, ?h⟩
      (case a => k_is)
      (case b => k_is)
      (case c => k_is)
      (case d => k_is)
      (case e => k_is)
      (case f => k_is)
      (case g => k_is)
      (case h => k_is))
    (case ex_NotBusy =>
      as_aux_lemma =>
      refine' L3.Exn.of ?xL ?ini ?sa ?no ?kp ?sb ?ty ?ga ?gg ?hd ?bm ?dr ?ct
      (case xL => k_is)
      (case ini => k_is)
      (case sa => k_is)
      (case no => k_is)
      (case kp => k_is)
      (case sb => k_is)
      (case ty => k_is)
      (case ga => k_is)
      (case gg => k_is)
      (case hd => k_is)
      (case bm => decide +kernel)
      (case dr => rfl)
      (case ct => rfl))
    (case xc_NotBusy =>
      as_aux_lemma =>
      refine' ⟨?a, ?b, ?c, ?d, ?e, ?f, ?g, ?h⟩
      (case a => k_is)
      (case b => k_is)
      (case c => k_is)
      (case d => k_is)
      (case e => k_is)
      (case f => k_is)
      (case g => k_is)
      (case h => k_is))
    (case ex_BadAnswer =>
      as_aux_lemma =>
      refine' L3.Exn.of ?xL ?ini ?sa ?no ?kp ?sb ?ty ?ga ?gg ?hd ?bm ?dr ?ct
      (case xL => k_is)
      (case ini => k_is)
      (case sa => k_is)
      (case no => k_is)
      (case kp => k_is)
      (case sb => k_is)
      (case ty => k_is)
      (case ga => k_is)
      (case gg => k_is)
      (case hd => k_is)
      (case bm => decide +kernel)
      (case dr => rfl)
      (case ct => rfl))
    (case xc_BadAnswer =>
      as_aux_lemma =>
      refine' ⟨?a, ?b, ?c, ?d, ?e, ?f, ?g, ?h⟩
      (case a => k_is)
      (case b => k_is)
      (case c => k_is)
      (case d => k_is)
      (case e => k_is)
      (case f => k_is)
      (case g => k_is)
      (case h => k_is))
    (case ex_BadDay =>
      as_aux_lemma =>
      refine' L3.Exn.of ?xL ?ini ?sa ?no ?kp ?sb ?ty ?ga ?gg ?hd ?bm ?dr ?ct
      (case xL => k_is)
      (case ini => k_is)
      (case sa => k_is)
      (case no => k_is)
      (case kp => k_is)
      (case sb => k_is)
      (case ty => k_is)
      (case ga => k_is)
      (case gg => k_is)
      (case hd => k_is)
      (case bm => decide +kernel)
      (case dr => rfl)
      (case ct => rfl))
    (case xc_BadDay =>
      as_aux_lemma =>
      refine' ⟨?a, ?b, ?c, ?d, ?e, ?f, ?g, ?h⟩
      (case a => k_is)
      (case b => k_is)
      (case c => k_is)
      (case d => k_is)
      (case e => k_is)
      (case f => k_is)
      (case g => k_is)
      (case h => k_is))
    (case ex_DayOver =>
      as_aux_lemma =>
      refine' L3.Exn.of ?xL ?ini ?sa ?no ?kp ?sb ?ty ?ga ?gg ?hd ?bm ?dr ?ct
      (case xL => k_is)
      (case ini => k_is)
      (case sa => k_is)
      (case no => k_is)
      (case kp => k_is)
      (case sb => k_is)
      (case ty => k_is)
      (case ga => k_is)
      (case gg => k_is)
      (case hd => k_is)
      (case bm => decide +kernel)
      (case dr => rfl)
      (case ct => rfl))
    (case xc_DayOver =>
      as_aux_lemma =>
      refine' ⟨?a, ?b, ?c, ?d, ?e, ?f, ?g, ?h⟩
      (case a => k_is)
      (case b => k_is)
      (case c => k_is)
      (case d => k_is)
      (case e => k_is)
      (case f => k_is)
      (case g => k_is)
      (case h => k_is))
    (case ex_NoName =>
      as_aux_lemma =>
      refine' L3.Exn.of ?xL ?ini ?sa ?no ?kp ?sb ?ty ?ga ?gg ?hd ?bm ?dr ?ct
      (case xL => k_is)
      (case ini => k_is)
      (case sa => k_is)
      (case no => k_is)
      (case kp => k_is)
      (case sb => k_is)
      (case ty => k_is)
      (case ga => k_is)
      (case gg => k_is)
      (case hd => k_is)
      (case bm => decide +kernel)
      (case dr => rfl)
      (case ct => rfl))
    (case xc_NoName =>
      as_aux_lemma =>
      refine' ⟨?a, ?b, ?c, ?d, ?e, ?f, ?g, ?h⟩
      (case a => k_is)
      (case b => k_is)
      (case c => k_is)
      (case d => k_is)
      (case e => k_is)
      (case f => k_is)
      (case g => k_is)
      (case h => k_is))
    (case hi_HouseError =>
      refine' L3.HInit.of (st := G.mth 1 0) ?ho ?hcd ?hcode ?hvs ?hcell ?hDl ?hno ?hsup ?ty ?hfile ?htop ?hb ?hp ?har ?hbind ?hks ?hkc ?hka ?hkv ?hkind ?hcells ?hco ?hgen ?i1 ?i2 ?i3 ?i4
      (case ho => k_is)
      (case hcd => k_is)
      (case hcode => k_is)
      (case hvs => rfl)
      (case hcell => k_is)
      (case hDl => k_is)
      (case hno => k_is)
      (case hsup =>
        refine' PySem.W.mg_none_of KX Gm ?a
        (case a => k_is))
      (case ty => k_is)
      (case hfile => decide +kernel)
      (case htop => decide +kernel)
      (case hb => rfl)
      (case hp => rfl)
      (case har => rfl)
      (case hbind => exact fun _ _ _ _ _ _ _ us hl => match us, hl with | [_, _], _ => rfl)
      (case hks => decide +kernel)
      (case hkc => decide +kernel)
      (case hka => decide +kernel)
      (case hkv => decide +kernel)
      (case hkind => rfl)
      (case hcells => decide +kernel)
      (case hco => rfl)
      (case hgen => rfl)
      (case i1 => exact fun _ => rfl)
      (case i2 => exact fun _ => rfl)
      (case i3 => exact fun _ => ⟨_, rfl⟩)
      (case i4 => exact fun _ => rfl))
    (case kall => as_aux_lemma => kernel_rfl)
    (case khe => as_aux_lemma => kernel_rfl)
    (case kval => as_aux_lemma => kernel_rfl)
    (case knd => decide +kernel)
    (case kho => decide +kernel)
    (case n_ValueError =>
      refine' PySem.W.mg_none_of KX Gm ?a
      (case a => k_is))
    (case n_abs =>
      refine' PySem.W.mg_none_of KX Gm ?a
      (case a => k_is))
    (case n_all =>
      refine' PySem.W.mg_none_of KX Gm ?a
      (case a => k_is))
    (case n_enumerate =>
      refine' PySem.W.mg_none_of KX Gm ?a
      (case a => k_is))
    (case n_int =>
      refine' PySem.W.mg_none_of KX Gm ?a
      (case a => k_is))
    (case n_isinstance =>
      refine' PySem.W.mg_none_of KX Gm ?a
      (case a => k_is))
    (case n_len =>
      refine' PySem.W.mg_none_of KX Gm ?a
      (case a => k_is))
    (case n_list =>
      refine' PySem.W.mg_none_of KX Gm ?a
      (case a => k_is))
    (case n_max =>
      refine' PySem.W.mg_none_of KX Gm ?a
      (case a => k_is))
    (case n_min =>
      refine' PySem.W.mg_none_of KX Gm ?a
      (case a => k_is))
    (case n_range =>
      refine' PySem.W.mg_none_of KX Gm ?a
      (case a => k_is))
    (case n_repr =>
      refine' PySem.W.mg_none_of KX Gm ?a
      (case a => k_is))
    (case n_sum =>
      refine' PySem.W.mg_none_of KX Gm ?a
      (case a => k_is))
    (case d__law_pot =>
      refine' L3.Def.of KX Gm ?a ?l ?c ?k (fun _ _ _ _ _ _ us hl => match us, hl with | [_, _], _ => rfl)
      (case a => k_is)
      (case l => k_is)
      (case c => k_is)
      (case k => k_is))
    (case d__law_take =>
      refine' L3.Def.of KX Gm ?a ?l ?c ?k (fun _ _ _ _ _ _ us hl => match us, hl with | [_, _], _ => rfl)
      (case a => k_is)
      (case l => k_is)
      (case c => k_is)
      (case k => k_is))
    (case d__law_cells =>
      refine' L3.Def.of KX Gm ?a ?l ?c ?k (fun _ _ _ _ _ _ us hl => match us, hl with | [_, _], _ => rfl)
      (case a => k_is)
      (case l => k_is)
      (case c => k_is)
      (case k => k_is))
    (case d__law_kinds_too =>
      refine' L3.Def.of KX Gm ?a ?l ?c ?k (fun _ _ _ _ _ _ us hl => match us, hl with | [_], _ => rfl)
      (case a => k_is)
      (case l => k_is)
      (case c => k_is)
      (case k => k_is))
    (case d__law_kinds_more =>
      refine' L3.Def.of KX Gm ?a ?l ?c ?k (fun _ _ _ _ _ _ us hl => match us, hl with | [_], _ => rfl)
      (case a => k_is)
      (case l => k_is)
      (case c => k_is)
      (case k => k_is))
    (case d__law_of =>
      refine' L3.Def.of KX Gm ?a ?l ?c ?k (fun _ _ _ _ _ _ us hl => match us, hl with | [_, _], _ => rfl)
      (case a => k_is)
      (case l => k_is)
      (case c => k_is)
      (case k => k_is))
    (case d__law_made_too =>
      refine' L3.Def.of KX Gm ?a ?l ?c ?k (fun _ _ _ _ _ _ us hl => match us, hl with | [_], _ => rfl)
      (case a => k_is)
      (case l => k_is)
      (case c => k_is)
      (case k => k_is))
    (case d__law_made_more =>
      refine' L3.Def.of KX Gm ?a ?l ?c ?k (fun _ _ _ _ _ _ us hl => match us, hl with | [_], _ => rfl)
      (case a => k_is)
      (case l => k_is)
      (case c => k_is)
      (case k => k_is))
    (case d__law_kinds =>
      refine' L3.Def.of KX Gm ?a ?l ?c ?k (fun _ _ _ _ _ _ us hl => match us, hl with | [_], _ => rfl)
      (case a => k_is)
      (case l => k_is)
      (case c => k_is)
      (case k => k_is))
    (case d__law_odd =>
      refine' L3.Def.of KX Gm ?a ?l ?c ?k (fun _ _ _ _ _ _ us hl => match us, hl with | [_], _ => rfl)
      (case a => k_is)
      (case l => k_is)
      (case c => k_is)
      (case k => k_is))
    (case d__law_made =>
      refine' L3.Def.of KX Gm ?a ?l ?c ?k (fun _ _ _ _ _ _ us hl => match us, hl with | [_], _ => rfl)
      (case a => k_is)
      (case l => k_is)
      (case c => k_is)
      (case k => k_is))
    (case d__law_right =>
      refine' L3.Def.of KX Gm ?a ?l ?c ?k (fun _ _ _ _ _ _ us hl => match us, hl with | [_], _ => rfl)
      (case a => k_is)
      (case l => k_is)
      (case c => k_is)
      (case k => k_is))
    (case d_law =>
      refine' L3.Def.of KX Gm ?a ?l ?c ?k (fun _ _ _ _ _ _ us hl => match us, hl with | [_], _ => rfl)
      (case a => k_is)
      (case l => k_is)
      (case c => k_is)
      (case k => k_is))


