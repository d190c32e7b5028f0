import PyProof.Rows.All
import HandS.ForMost
import HandS.Flow
import KE.DataEq
import KE.DataIsa
import KE.DataAny
import KE.DataMinMax
import KE.DataFind
import KE.SortData
import KE.LtData
import HandS.TupAny
import HandS.TupMul
import HandS.Wide
import HandS.Deep
import HandS.Style
import HandS.SortInts
import HandS.Zip
import HandS.Iter
import HandS.Comp
import KE.GoesEnum
import HandS.Small
import HandS.Words
import HandS.Conv
import KE.KRevSl
import KE.DatumOrd
import PySem.Challenge.RW_layerhouse_k83_whole_ends_rows_and_slack
import Wide.All
import OpenK.AllK
import Wide.FinOn
section
set_option Elab.async false
set_option linter.all false
set_option maxRecDepth 100000
set_option maxHeartbeats 4000000
/-! PD: plain data. What a value is as data in an abstract heap, where some addresses are OWNED (O): lists and dicts that only one name holds. -/
namespace PD
open PySem PySem.Spec PyProof.Rows L2

abbrev Ow := Addr → Prop

/-- a key as data -/
def keyD : Key → PyData
  | .inl i => .int i
  | .inr x => .str x
def keysD (l : List Key) : PyData := .tuple (l.map keyD)
/-- a dict as data: ahead stands of which kind its keys are (true: tuples) -/
def dicD (t : Bool) (ds : List (PyData × PyData)) : PyData := .dict ((.bool t, .none) :: ds)

def SqLo (O : Ow) (H : Hp) (a : Addr) (xs : List V) : Prop := ¬ O a ∧ H a = some (.lst xs)
def SqTo (O : Ow) (H : Hp) (a : Addr) (xs : List V) : Prop := ¬ O a ∧ H a = some (.tup xs)
theorem SqLo.sq {K : PySem.W.Frag} {O : Ow} {H : Hp} {a : Addr} {xs : List V} (h : SqLo O H a xs) : SqL K H a xs := .inl (.inl h.2)
theorem SqTo.sq {K : PySem.W.Frag} {O : Ow} {H : Hp} {a : Addr} {xs : List V} (h : SqTo O H a xs) : SqT K H a xs := .inl (.inl h.2)

mutual
inductive At (K : PySem.W.Frag) (O : Ow) (H : Hp) : V → PyData → Prop
  | non : At K O H .non .none
  | bl (b : Bool) : At K O H (.bl b) (.bool b)
  | int (i : Int) : At K O H (.int i) (.int i)
  | str (x : Str) : At K O H (.str x) (.str x)
  | lst {a : Addr} {xs : List V} {ds : List PyData} : SqLo O H a xs → AtL K O H xs ds → At K O H (.ref a) (.list ds)
  | tup {a : Addr} {xs : List V} {ds : List PyData} : SqTo O H a xs → AtL K O H xs ds → At K O H (.ref a) (.tuple ds)
  | dicK {a : Addr} {kvs : List (Key × V)} {ds : List (PyData × PyData)} : ¬ O a → H a = some (.dK kvs) → AtK K O H kvs ds → At K O H (.ref a) (.dict ((.bool false, .none) :: ds))
  | dicT {a : Addr} {kvs : List (List Key × V)} {ds : List (PyData × PyData)} : ¬ O a → H a = some (.dT kvs) → AtT K O H kvs ds → At K O H (.ref a) (.dict ((.bool true, .none) :: ds))
inductive AtL (K : PySem.W.Frag) (O : Ow) (H : Hp) : List V → List PyData → Prop
  | nil : AtL K O H [] []
  | cons {v : V} {vs : List V} {d : PyData} {ds : List PyData} : At K O H v d → AtL K O H vs ds → AtL K O H (v :: vs) (d :: ds)
inductive AtK (K : PySem.W.Frag) (O : Ow) (H : Hp) : List (Key × V) → List (PyData × PyData) → Prop
  | nil : AtK K O H [] []
  | cons {k : Key} {v : V} {vs : List (Key × V)} {d : PyData} {ds : List (PyData × PyData)} : At K O H v d → AtK K O H vs ds → AtK K O H ((k, v) :: vs) ((keyD k, d) :: ds)
inductive AtT (K : PySem.W.Frag) (O : Ow) (H : Hp) : List (List Key × V) → List (PyData × PyData) → Prop
  | nil : AtT K O H [] []
  | cons {k : List Key} {v : V} {vs : List (List Key × V)} {d : PyData} {ds : List (PyData × PyData)} : At K O H v d → AtT K O H vs ds → AtT K O H ((k, v) :: vs) ((keysD k, d) :: ds)
end

/-- what is not owned stays, and nothing that stood becomes owned -/
structure Kp (O : Ow) (H : Hp) (O' : Ow) (H' : Hp) : Prop where
  st : ∀ a o, H a = some o → ¬ O a → H' a = some o
  ow : ∀ a, ¬ O a → H a ≠ none → ¬ O' a
theorem Kp.refl {O : Ow} {H : Hp} : Kp O H O H := ⟨fun _ _ h _ => h, fun _ h _ => h⟩
theorem Kp.trans {O O1 O2 : Ow} {H H1 H2 : Hp} (a : Kp O H O1 H1) (b : Kp O1 H1 O2 H2) : Kp O H O2 H2 :=
  ⟨fun c o h n => b.st c o (a.st c o h n) (a.ow c n (by rw [h]; exact fun z => nomatch z)), fun c n h => b.ow c (a.ow c n h) (by
    cases e : H c with
    | none => exact absurd e h
    | some o => rw [a.st c o e n]; exact fun z => nomatch z)⟩

section
variable {K : PySem.W.Frag} {O O' : Ow} {H H' : Hp}
theorem Kp.rd (k : Kp O H O' H') {a : Addr} {u : HO} (n : ¬ O a) (r : Rd H a u) : Rd H' a u := by
  rcases r with r | ⟨o, r⟩
  · exact .inl (k.st a _ r n)
  · exact .inr ⟨o, k.st a _ r n⟩
theorem Rd.some {a : Addr} {u : HO} (r : Rd H a u) : H a ≠ none := by
  rcases r with r | ⟨o, r⟩ <;> rw [r] <;> exact fun z => nomatch z
theorem Kp.sqL (k : Kp O H O' H') {a : Addr} {xs : List V} (h : SqLo O H a xs) : SqLo O' H' a xs := ⟨k.ow _ h.1 (by rw [h.2]; exact fun z => nomatch z), k.st _ _ h.2 h.1⟩
theorem Kp.sqT (k : Kp O H O' H') {a : Addr} {xs : List V} (h : SqTo O H a xs) : SqTo O' H' a xs := ⟨k.ow _ h.1 (by rw [h.2]; exact fun z => nomatch z), k.st _ _ h.2 h.1⟩
mutual
theorem At.kp (k : Kp O H O' H') : ∀ (d : PyData) (v : V), At K O H v d → At K O' H' v d
  | .none, _, h => by cases h; exact .non
  | .bool _, _, h => by cases h; exact .bl _
  | .int _, _, h => by cases h; exact .int _
  | .str _, _, h => by cases h; exact .str _
  | .list ds, _, h => by
    cases h with
    | lst s l => exact .lst (k.sqL s) (AtL.kp k ds _ l)
  | .tuple ds, _, h => by
    cases h with
    | tup s l => exact .tup (k.sqT s) (AtL.kp k ds _ l)
  | .dict (_ :: ds), _, h => by
    cases h with
    | dicK n s l => exact .dicK (k.ow _ n (by rw [s]; exact fun z => nomatch z)) (k.st _ _ s n) (AtK.kp k ds _ l)
    | dicT n s l => exact .dicT (k.ow _ n (by rw [s]; exact fun z => nomatch z)) (k.st _ _ s n) (AtT.kp k ds _ l)
  | .dict [], _, h => by cases h
theorem AtL.kp (k : Kp O H O' H') : ∀ (ds : List PyData) (vs : List V), AtL K O H vs ds → AtL K O' H' vs ds
  | [], _, h => by cases h; exact .nil
  | d :: ds, _, h => by
    cases h with
    | cons h1 h2 => exact .cons (At.kp k d _ h1) (AtL.kp k ds _ h2)
theorem AtK.kp (k : Kp O H O' H') : ∀ (ds : List (PyData × PyData)) (vs : List (Key × V)), AtK K O H vs ds → AtK K O' H' vs ds
  | [], _, h => by cases h; exact .nil
  | (_, d) :: ds, _, h => by
    cases h with
    | cons h1 h2 => exact .cons (At.kp k d _ h1) (AtK.kp k ds _ h2)
theorem AtT.kp (k : Kp O H O' H') : ∀ (ds : List (PyData × PyData)) (vs : List (List Key × V)), AtT K O H vs ds → AtT K O' H' vs ds
  | [], _, h => by cases h; exact .nil
  | (_, d) :: ds, _, h => by
    cases h with
    | cons h1 h2 => exact .cons (At.kp k d _ h1) (AtT.kp k ds _ h2)
end
theorem At.to (k : Kp O H O' H') {d : PyData} {v : V} (h : At K O H v d) : At K O' H' v d := At.kp k d v h
theorem AtL.to (k : Kp O H O' H') {d : List PyData} {v : List V} (h : AtL K O H v d) : AtL K O' H' v d := AtL.kp k d v h
theorem AtK.to (k : Kp O H O' H') {d : List (PyData × PyData)} {v : List (Key × V)} (h : AtK K O H v d) : AtK K O' H' v d := AtK.kp k d v h
theorem AtT.to (k : Kp O H O' H') {d : List (PyData × PyData)} {v : List (List Key × V)} (h : AtT K O H v d) : AtT K O' H' v d := AtT.kp k d v h
/-- fewer are owned -/
theorem Kp.less (h : ∀ a, O' a → O a) : Kp O H O' H := ⟨fun _ _ h _ => h, fun a n _ z => n (h a z)⟩
/-- a new object -/
theorem Kp.new {p : Addr} {o : HO} (hp : H p = none) : Kp O H O (upd H p o) := ⟨fun a u e _ => by rw [upd_ne (ne_of_none e hp)]; exact e, fun _ n _ => n⟩
theorem AtL.length {vs : List V} {ds : List PyData} : ∀ {vs : List V} {ds : List PyData}, AtL K O H vs ds → vs.length = ds.length
  | _, _, .nil => rfl
  | _, _, .cons _ t => by rw [List.length_cons, List.length_cons, AtL.length (vs := vs) (ds := ds) t]
theorem AtL.len {vs : List V} {ds : List PyData} (h : AtL K O H vs ds) : vs.length = ds.length := AtL.length (vs := vs) (ds := ds) h
theorem AtL.get : ∀ {vs : List V} {ds : List PyData} {i : Nat} {v : V}, AtL K O H vs ds → vs[i]? = some v → ∃ d, ds[i]? = some d ∧ At K O H v d
  | _, _, _, _, .nil, e => by simp at e
  | _, _, 0, _, .cons r _, e => by simp at e; subst e; exact ⟨_, rfl, r⟩
  | _, _, i + 1, v, .cons _ t, e => by
    obtain ⟨d, h1, h2⟩ := AtL.get (i := i) (v := v) t (by simpa using e)
    exact ⟨d, by simpa using h1, h2⟩
theorem AtL.get' : ∀ {vs : List V} {ds : List PyData} {i : Nat} {d : PyData}, AtL K O H vs ds → ds[i]? = some d → ∃ v, vs[i]? = some v ∧ At K O H v d
  | _, _, _, _, .nil, e => by simp at e
  | _, _, 0, _, .cons r _, e => by simp at e; subst e; exact ⟨_, rfl, r⟩
  | _, _, i + 1, v, .cons _ t, e => by
    obtain ⟨d, h1, h2⟩ := AtL.get' (i := i) (d := v) t (by simpa using e)
    exact ⟨d, by simpa using h1, h2⟩
theorem AtL.append : ∀ {vs ws : List V} {ds es : List PyData}, AtL K O H vs ds → AtL K O H ws es → AtL K O H (vs ++ ws) (ds ++ es)
  | _, _, _, _, .nil, s => s
  | _, _, _, _, .cons r t, s => .cons r (AtL.append t s)
theorem AtL.set : ∀ {vs : List V} {ds : List PyData} (i : Nat) {v : V} {d : PyData}, AtL K O H vs ds → At K O H v d → AtL K O H (vs.set i v) (ds.set i d)
  | _, _, _, _, _, .nil, _ => .nil
  | _, _, 0, _, _, .cons _ t, r => .cons r t
  | _, _, i + 1, _, _, .cons q t, r => .cons q (AtL.set i t r)
theorem AtL.take : ∀ {vs : List V} {ds : List PyData} (n : Nat), AtL K O H vs ds → AtL K O H (vs.take n) (ds.take n)
  | _, _, 0, _ => .nil
  | _, _, _ + 1, .nil => .nil
  | _, _, n + 1, .cons r t => .cons r (AtL.take n t)
theorem AtL.drop : ∀ {vs : List V} {ds : List PyData} (n : Nat), AtL K O H vs ds → AtL K O H (vs.drop n) (ds.drop n)
  | _, _, 0, r => r
  | _, _, _ + 1, .nil => .nil
  | _, _, n + 1, .cons r t => AtL.drop n t
theorem AtL.reverse {vs : List V} {ds : List PyData} (h : AtL K O H vs ds) : AtL K O H vs.reverse ds.reverse := by
  induction vs generalizing ds with
  | nil => cases h; exact .nil
  | cons v vs ih =>
    cases h with
    | cons r t => rw [List.reverse_cons, List.reverse_cons]; exact (ih t).append (.cons r .nil)
theorem AtL.eraseIdx : ∀ {vs : List V} {ds : List PyData} (i : Nat), AtL K O H vs ds → AtL K O H (vs.eraseIdx i) (ds.eraseIdx i)
  | _, _, _, .nil => .nil
  | _, _, 0, .cons _ t => t
  | _, _, i + 1, .cons q t => .cons q (AtL.eraseIdx i t)
end

/-! ### what Reads asks -/
section
variable {X : Cx} {pins : List (Addr × Obj)} {σ : L2.St} {H : Hp} {s : Shared} {O : Ow}
theorem kvs_keys : ∀ {kvs : List (Key × V)} {vs : List (Key × Value)}, KV kvs vs → kvs.map (·.1) = vs.map (·.1)
  | _, _, .nil => rfl
  | _, _, .cons r t => by rw [List.map_cons, List.map_cons, r.1, kvs_keys t]
mutual
theorem At.reads (I : Inv X pins σ H s) : ∀ (d : PyData) (v : V) (u : Value), d.plain = true → At X.K O H v d → RelV v u → ∃ as, Reads s.heap u d as
  | .none, _, _, _, h, r => by cases h; cases r; exact ⟨_, Reads.none⟩
  | .bool b, _, _, _, h, r => by cases h; cases r; exact ⟨_, Reads.bool b⟩
  | .int i, _, _, _, h, r => by cases h; obtain ⟨t, rfl⟩ := r; exact ⟨_, Reads.int i t⟩
  | .str x, _, _, _, h, r => by cases h; obtain ⟨t, rfl⟩ := r; exact ⟨_, Reads.str x t⟩
  | .list ds, _, _, hd, h, r => by
    cases h with
    | lst hs ha =>
      cases r
      obtain ⟨its, rv, ⟨o, n, ho, hc, _, hd'⟩, _⟩ := I.list hs.sq
      obtain ⟨as, hr⟩ := AtL.reads I ds _ its (by simpa [PyData.plain] using hd) ha rv
      exact ⟨_, Reads.list ho hc hd' hr⟩
  | .tuple ds, _, _, hd, h, r => by
    cases h with
    | tup hs ha =>
      cases r
      obtain ⟨its, rv, ⟨o, ho, hc, n, hd'⟩, _⟩ := I.tuple hs.sq
      obtain ⟨as, hr⟩ := AtL.reads I ds _ its (by simpa [PyData.plain] using hd) ha rv
      exact ⟨_, Reads.tuple ho hc hd' hr⟩
  | .dict _, _, _, hd, h, _ => by simp [PyData.plain] at hd
theorem AtL.reads (I : Inv X pins σ H s) : ∀ (ds : List PyData) (vs : List V) (us : List Value), PyData.plainAll ds = true → AtL X.K O H vs ds → Vals vs us → ∃ as, ReadsAll s.heap us ds as
  | [], _, _, _, h, r => by cases h; cases r; exact ⟨_, ReadsAll.nil⟩
  | d :: ds, _, _, hd, h, r => by
    cases h with
    | cons h1 h2 =>
      cases r with
      | cons r1 r2 =>
        have e : d.plain = true ∧ PyData.plainAll ds = true := by simpa [PyData.plainAll] using hd
        obtain ⟨as, q1⟩ := At.reads I d _ _ e.1 h1 r1
        obtain ⟨bs, q2⟩ := AtL.reads I ds _ _ e.2 h2 r2
        exact ⟨_, ReadsAll.cons q1 q2⟩
end
end
end PD
end
section
set_option Elab.async false
set_option linter.all false
set_option maxRecDepth 100000
set_option maxHeartbeats 4000000
/-! PD2: the pure state of a body (slots, the hand's content), the judgements over it. -/
namespace PD
open PySem PySem.Spec PyProof.Rows L2

/-- a slot: unknown; data (shared, never changed); data that this name alone holds; data that an outer frame holds; the hand -/
inductive Sl where
  | no | v (d : PyData) | m (d : PyData) | b (d : PyData) | h
structure PSt where
  G : List Sl
  hd : List PyData

/-- what stays through a body: the module's facts, the hand's place, the heap and the owned ones at the entry -/
structure Pm where
  ha : Option Addr
  H0 : Hp
  O0 : Ow

inductive Own (K : PySem.W.Frag) (O : Ow) (H : Hp) (a : Addr) : PyData → Prop
  | lst {xs : List V} {ds : List PyData} : H a = some (.lst xs) → AtL K O H xs ds → Own K O H a (.list ds)
  | dicK {kvs : List (Key × V)} {ds : List (PyData × PyData)} : H a = some (.dK kvs) → AtK K O H kvs ds → Own K O H a (dicD false ds)
  | dicT {kvs : List (List Key × V)} {ds : List (PyData × PyData)} : H a = some (.dT kvs) → AtT K O H kvs ds → Own K O H a (dicD true ds)
/-- a value to be read: data, or an owned one -/
def AtE (K : PySem.W.Frag) (O : Ow) (H : Hp) (v : V) (d : PyData) : Prop := At K O H v d ∨ ∃ a, v = .ref a ∧ Own K O H a d

def SlOk (K : PySem.W.Frag) (p : Pm) (O : Ow) (H : Hp) (x : Option (Option V)) : Sl → Prop
  | .no => True
  | .v d => ∃ y, x = some (some y) ∧ At K O H y d
  | .m d => ∃ a, x = some (some (.ref a)) ∧ O a ∧ p.H0 a = none ∧ p.ha ≠ some a ∧ Own K O H a d
  | .b d => ∃ a, x = some (some (.ref a)) ∧ p.H0 a ≠ none ∧ p.ha ≠ some a ∧ Own K O H a d
  | .h => ∃ a, p.ha = some a ∧ x = some (some (.ref a))

structure Rl (K : PySem.W.Frag) (p : Pm) (O : Ow) (σ : L2.St) (H : Hp) (s : PSt) : Prop where
  len : s.G.length = σ.length
  sl : ∀ (i : Nat) (S : Sl), s.G[i]? = some S → SlOk K p O H (σ[i]?) S
  inj : ∀ (i j : Nat) (d d' : PyData) (a : Addr), s.G[i]? = some (.m d) → s.G[j]? = some (.m d') → σ[i]? = some (some (.ref a)) → σ[j]? = some (some (.ref a)) → i = j
  hand : ∀ a, p.ha = some a → O a ∧ ∃ xs, H a = some (.lst xs) ∧ AtL K O H xs s.hd
  frm : ∀ a o, p.H0 a = some o → p.ha ≠ some a → H a = some o
  dom : ∀ a, O a → H a ≠ none 
  o0 : ∀ a, p.O0 a → O a
  od : ∀ a, p.O0 a → p.H0 a ≠ none
  ob : ∀ a, O a → p.H0 a ≠ none → p.O0 a

section
variable {K : PySem.W.Frag} {p : Pm} {O O' : Ow} {σ : L2.St} {H H' : Hp} {s : PSt} {v : V} {d : PyData} {a : Addr}
theorem Own.some (h : Own K O H a d) : H a ≠ none := by
  cases h with
  | lst e _ => rw [e]; exact fun z => nomatch z
  | dicK e _ => rw [e]; exact fun z => nomatch z
  | dicT e _ => rw [e]; exact fun z => nomatch z
/-- the object itself stays, and what is not owned -/
theorem Own.to (k : Kp O H O' H') (e : H' a = H a) (h : Own K O H a d) : Own K O' H' a d := by
  cases h with
  | lst q l => exact .lst (e.trans q) (l.to k)
  | dicK q l => exact .dicK (e.trans q) (l.to k)
  | dicT q l => exact .dicT (e.trans q) (l.to k)
/-- it is owned no more -/
theorem Own.free (h : Own K O H a d) (n : ¬ O' a) (k : ∀ b, O' b → O b) : At K O' H (.ref a) d := by
  cases h with
  | lst q l => exact .lst ⟨n, q⟩ (l.to (Kp.less k))
  | dicK q l => exact .dicK n q (l.to (Kp.less k))
  | dicT q l => exact .dicT n q (l.to (Kp.less k))
theorem AtE.at0 (h : AtE K O H v d) : At K (fun _ => False) H v d := by
  rcases h with h | ⟨a, rfl, h⟩
  · exact h.to (Kp.less fun _ z => z.elim)
  · exact h.free (fun z => z) (fun _ z => z.elim)

/-! ### a new object -/
theorem Rl.new {q : Addr} {o : HO} (r : Rl K p O σ H s) (hq : H q = none) : Rl K p O σ (upd H q o) s := by
  have k : Kp O H O (upd H q o) := Kp.new hq
  have stay : ∀ {b}, H b ≠ none → upd H q o b = H b := fun {b} n => upd_ne (fun e => n (by rw [e]; exact hq))
  refine ⟨r.len, fun i S e => ?_, r.inj, fun a e => ?_, fun a u e n => ?_, fun a z => by rw [stay (r.dom a z)]; exact r.dom a z, r.o0, r.od, r.ob⟩
  · have q1 := r.sl i S e
    cases S with
    | no => trivial
    | v d => obtain ⟨y, e1, e2⟩ := q1; exact ⟨y, e1, e2.to k⟩
    | m d => obtain ⟨a, e1, e2, e3, e4, e5⟩ := q1; exact ⟨a, e1, e2, e3, e4, e5.to k (stay e5.some)⟩
    | b d => obtain ⟨a, e1, e2, e3, e4⟩ := q1; exact ⟨a, e1, e2, e3, e4.to k (stay e4.some)⟩
    | h => exact q1
  · obtain ⟨e1, xs, e2, e3⟩ := r.hand a e
    refine ⟨e1, xs, ?_, e3.to k⟩
    rw [stay (by rw [e2]; exact fun z => nomatch z)]; exact e2
  · have := r.frm a u e n
    rw [stay (by rw [this]; exact fun z => nomatch z)]; exact this
/-- a new object, owned -/
def Ow.with (O : Ow) (q : Addr) : Ow := fun a => O a ∨ a = q
theorem Kp.newOwn {q : Addr} {o : HO} (hq : H q = none) : Kp O H (O.with q) (upd H q o) := ⟨fun a u e _ => by rw [upd_ne (ne_of_none e hq)]; exact e, fun a n h z => by
  rcases z with z | z
  · exact n z
  · subst z; exact h hq⟩
theorem Rl.newOwn {q : Addr} {o : HO} (r : Rl K p O σ H s) (hq : H q = none) : Rl K p (O.with q) σ (upd H q o) s := by
  have k : Kp O H (O.with q) (upd H q o) := Kp.newOwn hq
  have stay : ∀ {b}, H b ≠ none → upd H q o b = H b := fun {b} n => upd_ne (fun e => n (by rw [e]; exact hq))
  refine ⟨r.len, fun i S e => ?_, r.inj, fun a e => ?_, fun a u e n => ?_, fun a z => ?_, fun a z => .inl (r.o0 a z), r.od, fun a z n => ?_⟩
  · have q1 := r.sl i S e
    cases S with
    | no => trivial
    | v d => obtain ⟨y, e1, e2⟩ := q1; exact ⟨y, e1, e2.to k⟩
    | m d => obtain ⟨a, e1, e2, e3, e4, e5⟩ := q1; exact ⟨a, e1, .inl e2, e3, e4, e5.to k (stay e5.some)⟩
    | b d => obtain ⟨a, e1, e2, e3, e4⟩ := q1; exact ⟨a, e1, e2, e3, e4.to k (stay e4.some)⟩
    | h => exact q1
  · obtain ⟨e1, xs, e2, e3⟩ := r.hand a e
    refine ⟨.inl e1, xs, ?_, e3.to k⟩
    rw [stay (by rw [e2]; exact fun z => nomatch z)]; exact e2
  · have := r.frm a u e n
    rw [stay (by rw [this]; exact fun z => nomatch z)]; exact this
  · rcases z with z | z
    · rw [stay (r.dom a z)]; exact r.dom a z
    · subst z; rw [upd_same]; exact fun z => nomatch z
  · rcases z with z | z
    · exact r.ob a z n
    · subst z
      cases e : p.H0 a with
      | none => exact absurd e n
      | some u =>
        by_cases hh : p.ha = some a
        · obtain ⟨_, xs, e2, _⟩ := r.hand a hh
          rw [hq] at e2; cases e2
        · have := r.frm a u e hh
          rw [hq] at this; cases this
end

/-! ### judgements -/
/-- a pure expression: the state, what is wanted of the value and the state -/
abbrev PTE := PSt → (PyData → PSt → Prop) → Prop
def Mono (t : PTE) : Prop := ∀ s Q Q', (∀ d s', Q d s' → Q' d s') → t s Q → t s Q'
def lift (K : PySem.W.Frag) (t : PTE) : TE := fun σ H QV => ∃ p O s, Rl K p O σ H s ∧ t s fun d s' => ∀ v O' H', Rl K p O' σ H' s' → Kp O H O' H' → At K O' H' v d → QV v H'
/-- e's value is data, shared -/
structure DE (X : Cx) (e : Expr) (t : PTE) : Prop where
  pe : PE X e (lift X.K t)
  mono : Mono t
/-- the operand of a reading: data, or the slot that holds it -/
inductive Rv where
  | c (d : PyData) | s (i : Nat)
@[simp] def Sl.data : Sl → Option PyData
  | .v d => some d
  | .m d => some d
  | .b d => some d
  | _ => none
@[simp] def rd (s : PSt) : Rv → Option PyData
  | .c d => some d
  | .s i => s.G[i]?.bind Sl.data
abbrev PTL := PSt → (Rv → PSt → Prop) → Prop
def MonoL (t : PTL) : Prop := ∀ s Q Q', (∀ d s', Q d s' → Q' d s') → t s Q → t s Q'
def RvOk (K : PySem.W.Frag) (p : Pm) (O : Ow) (σ : L2.St) (H : Hp) (v : V) : Rv → Prop
  | .c d => At K O H v d
  | .s i => σ[i]? = some (some v)
def liftL (K : PySem.W.Frag) (t : PTL) : TE := fun σ H QV => ∃ p O s, Rl K p O σ H s ∧ t s fun d s' => ∀ v O' H', Rl K p O' σ H' s' → Kp O H O' H' → RvOk K p O' σ H' v d → QV v H'
structure DL (X : Cx) (e : Expr) (t : PTL) : Prop where
  pe : PE X e (liftL X.K t)
  mono : MonoL t
/-- e's value is new and held by nothing -/
def Lone (K : PySem.W.Frag) (p : Pm) (O : Ow) (σ : L2.St) (H : Hp) (s : PSt) (a : Addr) (d : PyData) : Prop :=
  O a ∧ p.H0 a = none ∧ p.ha ≠ some a ∧ Own K O H a d ∧ ∀ (i : Nat) (d' : PyData), s.G[i]? = some (.m d') → σ[i]? ≠ some (some (.ref a))
def liftF (K : PySem.W.Frag) (t : PTE) : TE := fun σ H QV => ∃ p O s, Rl K p O σ H s ∧ t s fun d s' => ∀ a O' H', Rl K p O' σ H' s' → Kp O H O' H' → Lone K p O' σ H' s' a d → QV (.ref a) H'
structure DF (X : Cx) (e : Expr) (t : PTE) : Prop where
  pe : PE X e (liftF X.K t)
  mono : Mono t

theorem PE.weak {X : Cx} {e : Expr} {t t' : TE} (h : PE X e t) (w : ∀ σ H Q, t' σ H Q → t σ H Q) : PE X e t' := ⟨fun pins s σ H Q I q => h.run pins s σ H Q I (w _ _ _ q)⟩

section
variable {K : PySem.W.Frag} {X : Cx} {p : Pm} {O O' : Ow} {σ : L2.St} {H H' : Hp} {s : PSt} {v : V} {d : PyData} {a : Addr} {e : Expr} {t : PTE}
theorem RvOk.to {r : Rv} (k : Kp O H O' H') (h : RvOk K p O σ H v r) : RvOk K p O' σ H' v r := by
  cases r with
  | c d => exact At.to k h
  | s i => exact h
/-- what an operand reads as, now -/
theorem Rl.read {r : Rv} (R : Rl K p O σ H s) (h : RvOk K p O σ H v r) (e : rd s r = some d) : AtE K O H v d := by
  cases r with
  | c d' =>
    injection e with e
    subst e
    exact .inl h
  | s i =>
    have h : σ[i]? = some (some v) := h
    have e : s.G[i]?.bind Sl.data = some d := e
    cases q : s.G[i]? with
    | none => rw [q] at e; cases e
    | some S =>
      rw [q] at e
      have z := R.sl i S q
      rw [h] at z
      cases S with
      | no => cases e
      | v d' =>
        injection (show some d' = some d from e) with e; subst e
        obtain ⟨y, e1, e2⟩ := z
        cases e1
        exact .inl e2
      | m d' =>
        injection (show some d' = some d from e) with e; subst e
        obtain ⟨y, e1, _, _, _, e2⟩ := z
        cases e1
        exact .inr ⟨y, rfl, e2⟩
      | b d' =>
        injection (show some d' = some d from e) with e; subst e
        obtain ⟨y, e1, _, _, e2⟩ := z
        cases e1
        exact .inr ⟨y, rfl, e2⟩
      | h => cases e

/-- shared data as an operand -/
@[simp] def tOf (t : PTE) : PTL := fun s Q => t s fun d s' => Q (.c d) s'
theorem DE.dl (h : DE X e t) : DL X e (tOf t) :=
  ⟨PE.weak h.pe fun σ H Q ⟨p, O, s, r, q⟩ => ⟨p, O, s, r, h.mono _ _ _ (fun d s' k v O' H' r' kp a => k v O' H' r' kp a) q⟩,
    fun s Q Q' w q => h.mono _ _ _ (fun d s' => w (.c d) s') q⟩
/-- an owned one given up -/
def Ow.less (O : Ow) (a : Addr) : Ow := fun b => O b ∧ b ≠ a
theorem Rl.less (R : Rl K p O σ H s) (h0 : p.H0 a = none) (hh : p.ha ≠ some a) (hm : ∀ (i : Nat) (d' : PyData), s.G[i]? = some (.m d') → σ[i]? ≠ some (some (.ref a))) : Rl K p (O.less a) σ H s := by
  have k : Kp O H (O.less a) H := Kp.less fun _ z => z.1
  refine ⟨R.len, fun i S e => ?_, R.inj, fun b e => ?_, R.frm, fun b z => R.dom b z.1, fun b z => ⟨R.o0 b z, fun e => R.od b z (by rw [e]; exact h0)⟩, R.od, fun b z n => R.ob b z.1 n⟩
  · have q := R.sl i S e
    cases S with
    | no => trivial
    | v d => obtain ⟨y, e1, e2⟩ := q; exact ⟨y, e1, e2.to k⟩
    | m d =>
      obtain ⟨b, e1, e2, e3, e4, e5⟩ := q
      refine ⟨b, e1, ⟨e2, fun z => hm i d e (by rw [e1, z])⟩, e3, e4, e5.to k rfl⟩
    | b d => obtain ⟨b, e1, e2, e3, e4⟩ := q; exact ⟨b, e1, e2, e3, e4.to k rfl⟩
    | h => exact q
  · obtain ⟨e1, xs, e2, e3⟩ := R.hand b e
    exact ⟨⟨e1, fun z => hh (by rw [← z]; exact e)⟩, xs, e2, e3.to k⟩
theorem DF.de (h : DF X e t) : DE X e t :=
  ⟨PE.weak h.pe fun σ H Q ⟨p, O, s, r, q⟩ => ⟨p, O, s, r, h.mono _ _ _ (fun d s' k a O' H' r' kp ⟨l1, l2, l3, l4, l5⟩ =>
      k (.ref a) (O'.less a) H' (r'.less l2 l3 l5) (kp.trans (Kp.less fun _ z => z.1)) (l4.free (fun z => z.2 rfl) fun _ z => z.1)) q⟩, h.mono⟩
end
end PD
end
section
set_option Elab.async false
set_option linter.all false
set_option maxRecDepth 100000
set_option maxHeartbeats 4000000
/-! PD3: constants, names, operators, comparisons over data. -/
namespace PD
open PySem PySem.Spec PyProof.Rows L2

section
variable {K : PySem.W.Frag} {X : Cx} {p : Pm} {O O' : Ow} {σ : L2.St} {H H' : Hp} {s : PSt} {v : V} {d : PyData} {a : Addr}
theorem AtE.int {i : Int} (h : AtE K O H v (.int i)) : v = .int i := by
  rcases h with h | ⟨a, _, h⟩ <;> cases h
  rfl
theorem AtE.str {i : Str} (h : AtE K O H v (.str i)) : v = .str i := by
  rcases h with h | ⟨a, _, h⟩ <;> cases h
  rfl
theorem AtE.bl {i : Bool} (h : AtE K O H v (.bool i)) : v = .bl i := by
  rcases h with h | ⟨a, _, h⟩ <;> cases h
  rfl
theorem AtE.non (h : AtE K O H v .none) : v = .non := by
  rcases h with h | ⟨a, _, h⟩ <;> cases h
  rfl
theorem AtE.tup {ds : List PyData} (h : AtE K O H v (.tuple ds)) : ∃ a xs, v = .ref a ∧ SqTo O H a xs ∧ AtL K O H xs ds := by
  rcases h with h | ⟨a, _, h⟩ <;> cases h
  rename_i a xs h1 h2
  exact ⟨a, xs, rfl, h1, h2⟩
theorem AtE.lst {ds : List PyData} (h : AtE K O H v (.list ds)) : ∃ a xs, v = .ref a ∧ H a = some (.lst xs) ∧ AtL K O H xs ds := by
  rcases h with h | ⟨a, rfl, h⟩
  · cases h with
    | lst h1 h2 => exact ⟨_, _, rfl, h1.2, h2⟩
  · cases h with
    | lst h1 h2 => exact ⟨_, _, rfl, h1, h2⟩
theorem At.tupI {K : PySem.W.Frag} {xs : List V} {ds : List PyData} {a : Addr} (h1 : SqTo O H a xs) (h2 : AtL K O H xs ds) : At K O H (.ref a) (.tuple ds) := .tup h1 h2
/-- what is free is not owned -/
theorem Rl.nown {q : Addr} (R : Rl K p O σ H s) (hq : H q = none) : ¬ O q := fun z => R.dom q z hq
theorem Rl.fresh {q : Addr} (R : Rl K p O σ H s) (hq : H q = none) : p.H0 q = none ∧ p.ha ≠ some q ∧ ∀ (i : Nat) (d' : PyData), s.G[i]? = some (.m d') → σ[i]? ≠ some (some (.ref q)) := by
  have hh : p.ha ≠ some q := fun e => by
    obtain ⟨_, xs, e2, _⟩ := R.hand q e
    rw [hq] at e2; cases e2
  refine ⟨?_, hh, fun i d' e z => ?_⟩
  · cases e : p.H0 q with
    | none => rfl
    | some u => have := R.frm q u e hh; rw [hq] at this; cases this
  · obtain ⟨b, e1, e2, _⟩ := R.sl i _ e
    rw [z] at e1; cases e1
    exact R.dom _ e2 hq
/-- a new list, tuple, as shared data -/
theorem fin_tup {q : Addr} {xs : List V} {ds : List PyData} (R : Rl K p O σ H s) (hq : H q = none) (l : AtL K O H xs ds) :
    Rl K p O σ (upd H q (.tup xs)) s ∧ Kp O H O (upd H q (.tup xs)) ∧ At K O (upd H q (.tup xs)) (.ref q) (.tuple ds) :=
  ⟨R.new hq, Kp.new hq, .tup ⟨R.nown hq, upd_same⟩ (l.to (Kp.new hq))⟩
theorem fin_lst {q : Addr} {xs : List V} {ds : List PyData} (R : Rl K p O σ H s) (hq : H q = none) (l : AtL K O H xs ds) :
    Rl K p O σ (upd H q (.lst xs)) s ∧ Kp O H O (upd H q (.lst xs)) ∧ At K O (upd H q (.lst xs)) (.ref q) (.list ds) :=
  ⟨R.new hq, Kp.new hq, .lst ⟨R.nown hq, upd_same⟩ (l.to (Kp.new hq))⟩
theorem fin_lone {q : Addr} {xs : List V} {ds : List PyData} (R : Rl K p O σ H s) (hq : H q = none) (l : AtL K O H xs ds) :
    Rl K p (O.with q) σ (upd H q (.lst xs)) s ∧ Kp O H (O.with q) (upd H q (.lst xs)) ∧ Lone K p (O.with q) σ (upd H q (.lst xs)) s q (.list ds) :=
  ⟨R.newOwn hq, Kp.newOwn hq, .inr rfl, (R.fresh hq).1, (R.fresh hq).2.1, .lst upd_same (l.to (Kp.newOwn hq)), (R.fresh hq).2.2⟩

/-! ### constants, names -/
variable {e a b c : Expr} {pos : Pos}
@[simp] def tK (d : PyData) : PTE := fun s Q => Q d s
theorem mono_K : Mono (tK d) := fun s Q Q' w q => w _ _ q
theorem de_const {v : V} (h : PE X e (tC v)) (w : ∀ O H, At X.K O H v d) : DE X e (tK d) :=
  ⟨PE.weak h fun σ H Q ⟨p, O, s, r, q⟩ => q v O H r .refl (w O H), mono_K⟩
theorem de_int {i : Int} {j} : DE X (.Constant (.int i) j pos) (tK (.int i)) := de_const pe_int fun _ _ => .int i
theorem de_str {i : Str} {j} : DE X (.Constant (.str i) j pos) (tK (.str i)) := de_const pe_str fun _ _ => .str i
theorem de_bl {i : Bool} {j} : DE X (.Constant (.bool i) j pos) (tK (.bool i)) := de_const pe_bl fun _ _ => .bl i
theorem de_non {j} : DE X (.Constant .none j pos) (tK .none) := de_const pe_non fun _ _ => .non
theorem de_gint {x : Str} {i : Int} (hg : Gl X x) {t : Tok} (hm : X.mg x = some (.int i t)) (hd : (x == ("__debug__" : Str)) = false := by decide) : DE X (.Name x pos) (tK (.int i)) := de_const (pe_glob hg hm (v := .int i) ⟨_, rfl⟩ hd) fun _ _ => .int i
theorem de_gstr {x : Str} {i : Str} (hg : Gl X x) {t : Tok} (hm : X.mg x = some (.str i t)) (hd : (x == ("__debug__" : Str)) = false := by decide) : DE X (.Name x pos) (tK (.str i)) := de_const (pe_glob hg hm (v := .str i) ⟨_, rfl⟩ hd) fun _ _ => .str i
/-- a slot, as an operand -/
@[simp] def tSl (i : Nat) : PTL := fun s Q => (∃ d, rd s (.s i) = some d) ∧ Q (.s i) s
theorem Rl.val {i : Nat} (R : Rl K p O σ H s) (h : ∃ d, rd s (.s i) = some d) : ∃ v, σ[i]? = some (some v) := by
  obtain ⟨d, e⟩ := h
  have e : s.G[i]?.bind Sl.data = some d := e
  cases q : s.G[i]? with
  | none => rw [q] at e; cases e
  | some S =>
    have z := R.sl i S q
    rw [q] at e
    cases S with
    | no => cases e
    | v d' => obtain ⟨y, e1, _⟩ := z; exact ⟨_, e1⟩
    | m d' => obtain ⟨y, e1, _⟩ := z; exact ⟨_, e1⟩
    | b d' => obtain ⟨y, e1, _⟩ := z; exact ⟨_, e1⟩
    | h => cases e
theorem dl_pe {i : Nat} (h : PE X e (tVar i)) : DL X e (tSl i) :=
  ⟨PE.weak h fun σ H Q ⟨p, O, s, r, q, k⟩ => by
    obtain ⟨v, e⟩ := r.val q
    exact ⟨v, e, k v O H r .refl e⟩, fun s Q Q' w q => ⟨q.1, w _ _ q.2⟩⟩
theorem dl_var (i : Nat) {x : Str} (hN : X.N[i]? = some x := by rfl) (hv : Vis X.env.scope x := by first | exact Or.inl rfl | exact Or.inr (Or.inl rfl) | exact Or.inr (Or.inr rfl)) (hd : (x == ("__debug__" : Str)) = false := by decide)
    (hcd : (x == ("__classdict__" : Str)) = false := by decide) : DL X (.Name x pos) (tSl i) := dl_pe (pv i hN hv hd hcd)
/-- a slot, as shared data: what the name alone held is held by it alone no more -/
@[simp] def tVr (i : Nat) : PTE := fun s Q => match s.G[i]? with
  | some (.v d) => Q d s
  | some (.m d) => Q d { s with G := s.G.set i (.v d) }
  | _ => False
theorem Rl.freeze {i : Nat} {a : Addr} (R : Rl K p O σ H s) (e : s.G[i]? = some (.m d)) (ea : σ[i]? = some (some (.ref a))) : Rl K p (O.less a) σ H { s with G := s.G.set i (.v d) } ∧ At K (O.less a) H (.ref a) d := by
  have k : Kp O H (O.less a) H := Kp.less fun _ z => z.1
  obtain ⟨a', e1, e2, e3, e4, e5⟩ := R.sl i _ e
  rw [ea] at e1; cases e1
  have ha : At K (O.less a) H (.ref a) d := e5.free (fun z => z.2 rfl) fun _ z => z.1
  have hi : i < s.G.length := (List.getElem?_eq_some_iff.mp e).1
  have other : ∀ (j : Nat) (d' : PyData), (s.G.set i (.v d))[j]? = some (.m d') → j ≠ i ∧ s.G[j]? = some (.m d') := fun j d' q => by
    by_cases hj : i = j
    · subst hj; rw [List.getElem?_set_self hi] at q; cases q
    · rw [List.getElem?_set_ne hj] at q; exact ⟨fun z => hj z.symm, q⟩
  refine ⟨⟨by rw [List.length_set]; exact R.len, fun j S q => ?_, fun j l d' d'' c q1 q2 => R.inj j l d' d'' c (other j d' q1).2 (other l d'' q2).2, fun c e => ?_, R.frm, fun c z => R.dom c z.1, fun c z => ⟨R.o0 c z, fun e => R.od c z (by rw [e]; exact e3)⟩, R.od, fun c z n => R.ob c z.1 n⟩, ha⟩
  · by_cases hj : i = j
    · subst hj
      have q : (s.G.set i (.v d))[i]? = some S := q
      rw [List.getElem?_set_self hi] at q; cases q
      exact ⟨_, ea, ha⟩
    · have q : (s.G.set i (.v d))[j]? = some S := q
      rw [List.getElem?_set_ne hj] at q
      have z := R.sl j S q
      cases S with
      | no => trivial
      | v d => obtain ⟨y, e1, e2⟩ := z; exact ⟨y, e1, e2.to k⟩
      | m d' =>
        obtain ⟨c, q1, q2, q3, q4, q5⟩ := z
        exact ⟨c, q1, ⟨q2, fun z => hj (R.inj i j d d' a e q ea (by rw [q1, z]))⟩, q3, q4, q5.to k rfl⟩
      | b d' => obtain ⟨c, q1, q2, q3, q4⟩ := z; exact ⟨c, q1, q2, q3, q4.to k rfl⟩
      | h => exact z
  · obtain ⟨q1, xs, q2, q3⟩ := R.hand c e
    exact ⟨⟨q1, fun z => e4 (by rw [← z]; exact e)⟩, xs, q2, q3.to k⟩
theorem de_pe {i : Nat} (h : PE X e (tVar i)) : DE X e (tVr i) := by
  refine ⟨PE.weak h fun σ H Q ⟨p, O, s, r, q⟩ => ?_, fun s Q Q' w q => ?_⟩
  · unfold tVr at q
    split at q
    · rename_i d e
      obtain ⟨y, e1, e2⟩ := r.sl i _ e
      exact ⟨y, e1, q y O H r .refl e2⟩
    · rename_i d e
      obtain ⟨a, e1, _⟩ := r.sl i _ e
      obtain ⟨r', ha⟩ := r.freeze e e1
      exact ⟨_, e1, q _ _ H r' (Kp.less fun _ z => z.1) ha⟩
    · exact q.elim
  · unfold tVr at q ⊢
    split at q
    · exact w _ _ q
    · exact w _ _ q
    · exact q.elim
theorem de_var (i : Nat) {x : Str} (hN : X.N[i]? = some x := by rfl) (hv : Vis X.env.scope x := by first | exact Or.inl rfl | exact Or.inr (Or.inl rfl) | exact Or.inr (Or.inr rfl)) (hd : (x == ("__debug__" : Str)) = false := by decide)
    (hcd : (x == ("__classdict__" : Str)) = false := by decide) : DE X (.Name x pos) (tVr i) := de_pe (pv i hN hv hd hcd)

/-! ### operators -/
def OpD (X : Cx) (g : Value → Value → Sem Value) (f : PyData → PyData → Option PyData) : Prop :=
  ∀ (p : Pm) (pins : List (Addr × Obj)) (sh : Shared) (σ : L2.St) (H : Hp) (O : Ow) (s : PSt) (x y : V) (v u : Value) (dx dy z : PyData) (QV : VK), Inv X pins σ H sh → Rl X.K p O σ H s → RelV x v → RelV y u →
    AtE X.K O H x dx → AtE X.K O H y dy → f dx dy = some z → (∀ w H', Rl X.K p O σ H' s → Kp O H O H' → At X.K O H' w z → QV w H') → wpAny (model X.prog X.w) X.A (g v u) (EP X pins σ QV) X.xe sh
/-- the reading of two operands -/
@[simp] def tBin (f : PyData → PyData → Option PyData) (ta tb : PTL) : PTE := fun s Q => ta s fun x s1 => tb s1 fun y s2 => ∃ dx dy z, rd s2 x = some dx ∧ rd s2 y = some dy ∧ f dx dy = some z ∧ Q z s2
theorem mono_bin {f : PyData → PyData → Option PyData} {ta tb : PTL} (ha : MonoL ta) (hb : MonoL tb) : Mono (tBin f ta tb) := fun s Q Q' w q =>
  ha _ _ _ (fun x s1 q1 => hb _ _ _ (fun y s2 ⟨dx, dy, z, e1, e2, e3, q2⟩ => ⟨dx, dy, z, e1, e2, e3, w _ _ q2⟩) q1) q
/-- two operands, then anything -/
theorem two {ta tb : PTL} {s : PSt} {T : V → V → Hp → Prop} {U : Rv → Rv → PSt → Prop} (ha : DL X a ta) (hb : DL X b tb) (R : Rl X.K p O σ H s) (q : ta s fun x s1 => tb s1 fun y s2 => U x y s2)
    (k : ∀ x y vx vy O' H' s', Rl X.K p O' σ H' s' → Kp O H O' H' → RvOk X.K p O' σ H' vx x → RvOk X.K p O' σ H' vy y → U x y s' → T vx vy H') :
    liftL X.K ta σ H fun x H1 => liftL X.K tb σ H1 fun y H2 => T x y H2 :=
  ⟨p, O, s, R, ha.mono _ _ _ (fun x s1 q1 vx O1 H1 R1 k1 a1 => ⟨p, O1, s1, R1, hb.mono _ _ _ (fun y s2 q2 vy O2 H2 R2 k2 a2 => k x y vx vy O2 H2 s2 R2 (k1.trans k2) (a1.to k2) a2 q2) q1⟩) q⟩
theorem de_op {op : Operator} {f : PyData → PyData → Option PyData} {ta tb : PTL} (ho : OpD X (binaryOp op) f) (ha : DL X a ta) (hb : DL X b tb) : DE X (.BinOp a op b pos) (tBin f ta tb) := by
  refine ⟨⟨fun pins sh σ H Q I h => ?_⟩, mono_bin ha.mono hb.mono⟩
  obtain ⟨p, O, s, R, q⟩ := h
  refine wpAny_BinOp (binT ha.pe hb.pe I (two (T := fun x y H2 => ∃ O' s' dx dy z, Rl X.K p O' σ H2 s' ∧ AtE X.K O' H2 x dx ∧ AtE X.K O' H2 y dy ∧ f dx dy = some z ∧ ∀ w H3, Rl X.K p O' σ H3 s' → Kp O' H2 O' H3 → At X.K O' H3 w z → Q w H3) ha hb R q ?_) fun v u s2 x y H2 I2 rx ry q2 => ?_)
  · rintro x y vx vy O' H' s' R' k' a1 a2 ⟨dx, dy, z, e1, e2, e3, q3⟩
    exact ⟨O', s', dx, dy, z, R', R'.read a1 e1, R'.read a2 e2, e3, fun w H3 R3 k3 a3 => q3 w O' H3 R3 (k'.trans k3) a3⟩
  · obtain ⟨O', s', dx, dy, z, R', a1, a2, e3, q3⟩ := q2
    exact ho p pins s2 σ H2 O' s' x y v u dx dy z Q I2 R' rx ry a1 a2 e3 q3

def addD : PyData → PyData → Option PyData
  | .int i, .int j => some (.int (i + j))
  | .str x, .str y => if x.length + y.length ≤ sizeLine then some (.str (x ++ y)) else none
  | .tuple xs, .tuple ys => if xs.length + ys.length ≤ sizeLine then some (.tuple (xs ++ ys)) else none
  | .list xs, .list ys => if xs.length + ys.length ≤ sizeLine then some (.list (xs ++ ys)) else none
  | _, _ => none
theorem op_addD : OpD X (binaryOp .Add) addD := by
  intro p pins sh σ H O s x y v u dx dy z Q I R rx ry ax ay e k
  unfold addD at e
  split at e
  · cases e
    cases ax.int; cases ay.int
    exact op_add pins sh σ H _ _ v u Q I rx ry ⟨_, _, rfl, rfl, k _ H R .refl (.int _)⟩
  · split at e
    · rename_i hz
      cases e
      cases ax.str; cases ay.str
      exact op_add_str pins sh σ H _ _ v u Q I rx ry ⟨_, _, rfl, rfl, hz, k _ H R .refl (.str _)⟩
    · cases e
  · split at e
    · rename_i xs ys hz
      cases e
      obtain ⟨a, vs, rfl, h1, h2⟩ := ax.tup
      obtain ⟨b, ws, rfl, h3, h4⟩ := ay.tup
      refine op_catA pins sh σ H _ _ v u Q I rx ry ⟨_, _, vs, ws, rfl, rfl, h1.sq, h3.sq, by rw [h2.len, h4.len]; exact hz, fun z => ?_, fun _ z => ?_, fun _ _ q hq => ?_⟩
      · subst z; cases h2; exact k _ H R .refl (.tup h3 h4)
      · subst z; cases h4; rw [List.append_nil] at k; exact k _ H R .refl (.tup h1 h2)
      · obtain ⟨f1, f2, f3⟩ := fin_tup R hq (h2.append h4)
        exact k _ _ f1 f2 f3
    · cases e
  · split at e
    · rename_i xs ys hz
      cases e
      obtain ⟨a, vs, rfl, h1, h2⟩ := ax.lst
      obtain ⟨b, ws, rfl, h3, h4⟩ := ay.lst
      refine op_cat pins sh σ H _ _ v u Q I rx ry ⟨_, _, vs, ws, rfl, rfl, h1, h3, by rw [h2.len, h4.len]; exact hz, fun q hq => ?_⟩
      obtain ⟨f1, f2, f3⟩ := fin_lst R hq (h2.append h4)
      exact k _ _ f1 f2 f3
    · cases e
  · cases e
def subD : PyData → PyData → Option PyData
  | .int i, .int j => some (.int (i - j))
  | _, _ => none
theorem op_subD : OpD X (binaryOp .Sub) subD := by
  intro p pins sh σ H O s x y v u dx dy z Q I R rx ry ax ay e k
  unfold subD at e
  split at e
  · cases e
    cases ax.int; cases ay.int
    exact op_sub pins sh σ H _ _ v u Q I rx ry ⟨_, _, rfl, rfl, k _ H R .refl (.int _)⟩
  · cases e
/-- the i-th power of a row -/
def repD (n : Int) (ds : List PyData) : List PyData := (List.replicate n.toNat ds).flatten
theorem AtL.rep {xs : List V} {ds : List PyData} (h : AtL K O H xs ds) : ∀ n : Nat, AtL K O H (List.replicate n xs).flatten (List.replicate n ds).flatten
  | 0 => .nil
  | n + 1 => by
    rw [List.replicate_succ, List.replicate_succ, List.flatten_cons, List.flatten_cons]
    exact h.append (AtL.rep h n)
instance CMul.dec (i j : Int) : Decidable (CMul i j) := by unfold CMul; exact inferInstance
def mulD : PyData → PyData → Option PyData
  | .int i, .int j => if CMul i j then some (.int (i * j)) else none
  | .list xs, .int n => if -(2 ^ 63) ≤ n ∧ n < 2 ^ 63 ∧ xs.length * n.toNat ≤ sizeLine then some (.list (repD n xs)) else none
  | .tuple xs, .int n => if xs ≠ [] ∧ 2 ≤ n ∧ n ≤ 1000 ∧ xs.length ≤ 1000 then some (.tuple (repD n xs)) else none
  | _, _ => none
theorem op_mulD : OpD X (binaryOp .Mult) mulD := by
  intro p pins sh σ H O s x y v u dx dy z Q I R rx ry ax ay e k
  unfold mulD at e
  split at e
  · split at e
    · rename_i hc
      cases e
      cases ax.int; cases ay.int
      exact op_mul pins sh σ H _ _ v u Q I rx ry ⟨_, _, rfl, rfl, hc, k _ H R .refl (.int _)⟩
    · cases e
  · split at e
    · rename_i hz
      cases e
      obtain ⟨a, vs, rfl, h1, h2⟩ := ax.lst
      cases ay.int
      refine op_rep pins sh σ H _ _ v u Q I rx ry ⟨_, _, vs, rfl, rfl, h1, hz.1, hz.2.1, by rw [h2.len]; exact hz.2.2, fun q hq => ?_⟩
      obtain ⟨f1, f2, f3⟩ := fin_lst R hq (h2.rep _)
      exact k _ _ f1 f2 f3
    · cases e
  · split at e
    · rename_i hz
      cases e
      obtain ⟨a, vs, rfl, h1, h2⟩ := ax.tup
      cases ay.int
      refine op_repT pins sh σ H _ _ v u Q I rx ry ⟨_, _, vs, rfl, rfl, h1.sq, fun z => ?_, hz.2.1, hz.2.2.1, by rw [h2.len]; exact hz.2.2.2, fun q hq => ?_⟩
      · subst z; cases h2; exact hz.1 rfl
      · obtain ⟨f1, f2, f3⟩ := fin_tup R hq (h2.rep _)
        exact k _ _ f1 f2 f3
    · cases e
  · cases e
def divD : PyData → PyData → Option PyData
  | .int i, .int j => if 0 < j ∧ j < 1073741824 then some (.int (i / j)) else none
  | _, _ => none
theorem op_divD : OpD X (binaryOp .FloorDiv) divD := by
  intro p pins sh σ H O s x y v u dx dy z Q I R rx ry ax ay e k
  unfold divD at e
  split at e
  · split at e
    · rename_i hc
      cases e
      cases ax.int; cases ay.int
      exact op_fdiv pins sh σ H _ _ v u Q I rx ry ⟨_, _, rfl, rfl, hc, k _ H R .refl (.int _)⟩
    · cases e
  · cases e
def modD : PyData → PyData → Option PyData
  | .int i, .int j => if 0 < j then some (.int (i % j)) else none
  | _, _ => none
theorem op_modD : OpD X (binaryOp .Mod) modD := by
  intro p pins sh σ H O s x y v u dx dy z Q I R rx ry ax ay e k
  unfold modD at e
  split at e
  · split at e
    · rename_i hc
      cases e
      cases ax.int; cases ay.int
      exact op_mod pins sh σ H _ _ v u Q I rx ry ⟨_, _, rfl, rfl, hc, k _ H R .refl (.int _)⟩
    · cases e
  · cases e
def powD : PyData → PyData → Option PyData
  | .int i, .int j => if 0 ≤ j ∧ j ≤ 1000000 ∧ i.natAbs < 2 ^ 64 then some (.int (i ^ j.toNat)) else none
  | _, _ => none
theorem op_powD : OpD X (binaryOp .Pow) powD := by
  intro p pins sh σ H O s x y v u dx dy z Q I R rx ry ax ay e k
  unfold powD at e
  split at e
  · split at e
    · rename_i hc
      cases e
      cases ax.int; cases ay.int
      exact op_pow pins sh σ H _ _ v u Q I rx ry ⟨_, _, rfl, rfl, hc, k _ H R .refl (.int _)⟩
    · cases e
  · cases e
end
end PD
end
section
set_option Elab.async false
set_option linter.all false
set_option maxRecDepth 100000
set_option maxHeartbeats 4000000
/-! PD4: comparisons, tests, displays, subscripts over data. -/
namespace PD
open PySem PySem.Spec PyProof.Rows L2

/-- the key that data is -/
def keyOf : PyData → Option Key
  | .int i => some (.inl i)
  | .str x => some (.inr x)
  | _ => none
def keysAll : List PyData → Option (List Key)
  | [] => some []
  | d :: ds => (keyOf d).bind fun k => (keysAll ds).map (k :: ·)
def keysOf : PyData → Option (List Key)
  | .tuple ds => keysAll ds
  | _ => none
theorem keyOf_D {d : PyData} {k : Key} (h : keyOf d = some k) : d = keyD k := by
  unfold keyOf at h
  split at h <;> cases h <;> rfl
theorem keysAll_D : ∀ {ds : List PyData} {k : List Key}, keysAll ds = some k → ds = k.map keyD
  | [], _, h => by cases h; rfl
  | d :: ds, k, h => by
    unfold keysAll at h
    cases e : keyOf d with
    | none => rw [e] at h; cases h
    | some k0 =>
      cases e2 : keysAll ds with
      | none => rw [e, e2] at h; cases h
      | some ks =>
        rw [e, e2] at h
        cases h
        rw [List.map_cons, ← keyOf_D e, ← keysAll_D e2]
theorem keysOf_D {d : PyData} {k : List Key} (h : keysOf d = some k) : d = keysD k := by
  unfold keysOf at h
  split at h
  · rw [keysAll_D h]; rfl
  · cases h
theorem keyD_inj {k k' : Key} (h : keyD k = keyD k') : k = k' := by
  cases k <;> cases k' <;> cases h <;> rfl
theorem keyOf_keyD (k : Key) : keyOf (keyD k) = some k := by cases k <;> rfl
theorem keysAll_map : ∀ k : List Key, keysAll (k.map keyD) = some k
  | [] => rfl
  | k :: ks => by
    rw [List.map_cons]
    unfold keysAll
    rw [keyOf_keyD, keysAll_map ks]
    rfl
/-- what a dict of data has at a key -/
def lookD (k : PyData) : List (PyData × PyData) → Option PyData
  | [] => none
  | (k', d) :: r => if (keyOf k' = keyOf k ∧ keysOf k' = keysOf k) then some d else lookD k r
def putD (k d : PyData) : List (PyData × PyData) → List (PyData × PyData)
  | [] => [(k, d)]
  | (k', d') :: r => if (keyOf k' = keyOf k ∧ keysOf k' = keysOf k) then (k', d) :: r else (k', d') :: putD k d r

section
variable {K : PySem.W.Frag} {X : Cx} {p : Pm} {O O' : Ow} {σ : L2.St} {H H' : Hp} {s : PSt} {v : V} {d : PyData} {a : Addr}
theorem At.key {k : Key} (h : At K O H v (keyD k)) : v = kV k := by
  cases k <;> cases h <;> rfl
theorem AtL.keys : ∀ {k : List Key} {vs : List V}, AtL K O H vs (k.map keyD) → vs = k.map kV
  | [], _, h => by cases h; rfl
  | k :: ks, _, h => by
    rw [List.map_cons] at h
    cases h with
    | cons h1 h2 => rw [List.map_cons, h1.key, AtL.keys h2]
theorem AtK.look : ∀ {kvs : List (Key × V)} {ds : List (PyData × PyData)} {k : Key}, AtK K O H kvs ds → (∀ d, lookD (keyD k) ds = some d → ∃ v, valV kvs k = some v ∧ At K O H v d) ∧ (lookD (keyD k) ds = none → valV kvs k = none)
  | _, _, _, .nil => ⟨fun _ h => (by cases h), fun _ => rfl⟩
  | _, _, k, .cons (k := k') (v := v) (vs := vs) (d := d) (ds := ds) h1 h2 => by
    have ih := AtK.look (k := k) h2
    have e : (keyOf (keyD k') = keyOf (keyD k) ∧ keysOf (keyD k') = keysOf (keyD k)) ↔ k' = k := by
      rw [keyOf_keyD, keyOf_keyD]
      refine ⟨fun h => Option.some.inj h.1, fun h => by rw [h]; exact ⟨rfl, rfl⟩⟩
    unfold lookD valV
    by_cases hk : k' = k
    · rw [if_pos (e.mpr hk), List.find?_cons_of_pos (by simpa using hk)]
      exact ⟨fun d' z => by cases z; exact ⟨v, rfl, h1⟩, fun z => by cases z⟩
    · rw [if_neg (fun z => hk (e.mp z)), List.find?_cons_of_neg (by simpa using hk)]
      exact ih
theorem AtT.look : ∀ {kvs : List (List Key × V)} {ds : List (PyData × PyData)} {k : List Key}, AtT K O H kvs ds → (∀ d, lookD (keysD k) ds = some d → ∃ v, valV kvs k = some v ∧ At K O H v d) ∧ (lookD (keysD k) ds = none → valV kvs k = none)
  | _, _, _, .nil => ⟨fun _ h => (by cases h), fun _ => rfl⟩
  | _, _, k, .cons (k := k') (v := v) (vs := vs) (d := d) (ds := ds) h1 h2 => by
    have ih := AtT.look (k := k) h2
    have e : (keyOf (keysD k') = keyOf (keysD k) ∧ keysOf (keysD k') = keysOf (keysD k)) ↔ k' = k := by
      have q : ∀ k : List Key, keysOf (keysD k) = some k := fun k => keysAll_map k
      rw [q, q]
      refine ⟨fun h => Option.some.inj h.2, fun h => by rw [h]; exact ⟨rfl, rfl⟩⟩
    unfold lookD valV
    by_cases hk : k' = k
    · rw [if_pos (e.mpr hk), List.find?_cons_of_pos (by simpa using hk)]
      exact ⟨fun d' z => by cases z; exact ⟨v, rfl, h1⟩, fun z => by cases z⟩
    · rw [if_neg (fun z => hk (e.mp z)), List.find?_cons_of_neg (by simpa using hk)]
      exact ih
/-- what stands as a dict -/
theorem AtE.dic {t : Bool} {ds : List (PyData × PyData)} (h : AtE K O H v (dicD t ds)) : ∃ a, v = .ref a ∧ ((t = false ∧ ∃ kvs, H a = some (.dK kvs) ∧ AtK K O H kvs ds) ∨ (t = true ∧ ∃ kvs, H a = some (.dT kvs) ∧ AtT K O H kvs ds)) := by
  unfold dicD at h
  rcases h with h | ⟨a, rfl, h⟩
  · cases h with
    | dicK h1 h2 h3 => exact ⟨_, rfl, .inl ⟨rfl, _, h2, h3⟩⟩
    | dicT h1 h2 h3 => exact ⟨_, rfl, .inr ⟨rfl, _, h2, h3⟩⟩
  · cases h with
    | dicK h2 h3 => exact ⟨_, rfl, .inl ⟨rfl, _, h2, h3⟩⟩
    | dicT h2 h3 => exact ⟨_, rfl, .inr ⟨rfl, _, h2, h3⟩⟩
/-- a key that is fit for the dict: ints and texts for the one kind, tuples of these for the other -/
def keyFits (t : Bool) (k : PyData) : Bool := if t then (keysOf k).isSome else (keyOf k).isSome
theorem keyOf_some {d : PyData} (h : (keyOf d).isSome = true) : ∃ k, d = keyD k := by
  cases e : keyOf d with
  | none => rw [e] at h; cases h
  | some k => exact ⟨k, keyOf_D e⟩
theorem keysOf_some {d : PyData} (h : (keysOf d).isSome = true) : ∃ k, d = keysD k := by
  cases e : keysOf d with
  | none => rw [e] at h; cases h
  | some k => exact ⟨k, keysOf_D e⟩
theorem keyD_keys {k : Key} : ¬ (keysOf (keyD k)).isSome = true := by cases k <;> exact fun h => nomatch h
theorem keysD_key {k : List Key} : ¬ (keyOf (keysD k)).isSome = true := fun h => nomatch h
theorem AtE.keyV {k : Key} {y : V} (hk : AtE K O H y (keyD k)) : y = kV k := by
  rcases hk with hk | ⟨b, _, hk⟩
  · exact hk.key
  · cases k <;> cases hk
theorem AtE.keysV {k : List Key} {y : V} (hk : AtE K O H y (keysD k)) : ∃ b, y = .ref b ∧ H b = some (.tup (k.map kV)) := by
  obtain ⟨b, xs, rfl, hb, hl⟩ := hk.tup
  have hx : xs = k.map kV := hl.keys
  subst hx
  exact ⟨b, rfl, hb.2⟩
theorem AtE.dget {t : Bool} {k : PyData} {y : V} {ds : List (PyData × PyData)} (h : AtE K O H v (dicD t ds)) (hk : AtE K O H y k) (f : keyFits t k = true) :
    ∃ a o, v = .ref a ∧ DGet H a y o ∧ (∀ d, lookD k ds = some d → ∃ w, o = some w ∧ At K O H w d) ∧ (lookD k ds = none → o = none) := by
  obtain ⟨a, rfl, hd⟩ := h.dic
  rcases hd with ⟨rfl, kvs, h1, h2⟩ | ⟨rfl, kvs, h1, h2⟩
  · obtain ⟨k', rfl⟩ := keyOf_some (show (keyOf k).isSome = true from f)
    cases hk.keyV
    exact ⟨a, _, rfl, DGet.k h1, h2.look.1, h2.look.2⟩
  · obtain ⟨k', rfl⟩ := keysOf_some (show (keysOf k).isSome = true from f)
    obtain ⟨b, rfl, hb⟩ := hk.keysV
    exact ⟨a, _, rfl, DGet.t h1 hb, h2.look.1, h2.look.2⟩

/-! ### comparisons -/
variable {e b c : Expr} {pos : Pos}
theorem de_cmp {op : CmpOp} {f : PyData → PyData → Option PyData} {ta tb : PTL} {a : Expr} (ho : OpD X (compareOp op) f) (ha : DL X a ta) (hb : DL X b tb)
    (hm : behindInMarks op b = false := by first | exact nomark _ | rfl) : DE X (.Compare a [op] [b] pos) (tBin f ta tb) := by
  refine ⟨⟨fun pins sh σ H Q I h => ?_⟩, mono_bin ha.mono hb.mono⟩
  obtain ⟨p, O, s, R, q⟩ := h
  refine wpAny_Compare1 (binT ha.pe hb.pe I (two (T := fun x y H2 => ∃ O' s' dx dy z, Rl X.K p O' σ H2 s' ∧ AtE X.K O' H2 x dx ∧ AtE X.K O' H2 y dy ∧ f dx dy = some z ∧ ∀ w H3, Rl X.K p O' σ H3 s' → Kp O' H2 O' H3 → At X.K O' H3 w z → Q w H3) ha hb R q ?_) fun v u s2 x y H2 I2 rx ry q2 => ?_) hm
  · rintro x y vx vy O' H' s' R' k' a1 a2 ⟨dx, dy, z, e1, e2, e3, q3⟩
    exact ⟨O', s', dx, dy, z, R', R'.read a1 e1, R'.read a2 e2, e3, fun w H3 R3 k3 a3 => q3 w O' H3 R3 (k'.trans k3) a3⟩
  · obtain ⟨O', s', dx, dy, z, R', a1, a2, e3, q3⟩ := q2
    exact ho p pins s2 σ H2 O' s' x y v u dx dy z Q I2 R' rx ry a1 a2 e3 q3
end
end PD
end
section
set_option Elab.async false
set_option linter.all false
set_option maxRecDepth 100000
set_option maxHeartbeats 4000000
/-! PD5: comparison operators over data; tests; and, or, not; displays; subscripts. -/
namespace PD
open PySem PySem.Spec PyProof.Rows L2

section
variable {K : PySem.W.Frag} {X : Cx} {p : Pm} {O O' : Ow} {σ : L2.St} {H H' : Hp} {s : PSt} {v : V} {d : PyData} {a : Addr}
theorem AtE.rds {pins : List (Addr × Obj)} {sh : Shared} {u : Value} (I : Inv X pins σ H sh) (h : AtE X.K O H v d) (hp : d.plain = true) (r : RelV v u) : ∃ as, Reads sh.heap u d as := At.reads I d v u hp h.at0 r
theorem At.rds {pins : List (Addr × Obj)} {sh : Shared} {u : Value} (I : Inv X pins σ H sh) (h : At X.K O H v d) (hp : d.plain = true) (r : RelV v u) : ∃ as, Reads sh.heap u d as := At.reads I d v u hp h r

theorem min60 {A : Around} {m : Nat} (hu : A.units + 64 < cLine) (h : m ≤ 60) : A.units + m < cLine := by omega
theorem min61 {A : Around} {m : Nat} (hu : A.units + 64 < cLine) (h : m ≤ 60) : A.units + 1 + m < cLine := by omega
def okEq (dx dy : PyData) : Bool := dx.plain && dy.plain && decide (min dx.depth dy.depth ≤ 60)
def eqD (dx dy : PyData) : Option PyData := if okEq dx dy then some (.bool (PyData.eqv dx dy)) else none
def neD (dx dy : PyData) : Option PyData := if okEq dx dy then some (.bool (!PyData.eqv dx dy)) else none
theorem okEq_of {dx dy : PyData} (h : okEq dx dy = true) : dx.plain = true ∧ dy.plain = true ∧ min dx.depth dy.depth ≤ 60 := by
  unfold okEq at h
  simp only [Bool.and_eq_true, decide_eq_true_eq] at h
  exact ⟨h.1.1, h.1.2, h.2⟩
theorem op_eqP (hu : X.A.units + 64 < cLine) : OpD X (compareOp .Eq) eqD := by
  intro p pins sh σ H O s x y v u dx dy z Q I R rx ry ax ay e k
  unfold eqD at e
  split at e
  · rename_i ok
    cases e
    obtain ⟨p1, p2, p3⟩ := okEq_of ok
    obtain ⟨as, r1⟩ := ax.rds I p1 rx
    obtain ⟨bs, r2⟩ := ay.rds I p2 ry
    exact SeqAt.eq_plain r1 r2 p1 p2 (min60 hu p3) ⟨.bl _, H, I, rfl, k _ H R .refl (.bl _)⟩
  · cases e
theorem op_neP (hu : X.A.units + 64 < cLine) : OpD X (compareOp .NotEq) neD := by
  intro p pins sh σ H O s x y v u dx dy z Q I R rx ry ax ay e k
  unfold neD at e
  split at e
  · rename_i ok
    cases e
    obtain ⟨p1, p2, p3⟩ := okEq_of ok
    obtain ⟨as, r1⟩ := ax.rds I p1 rx
    obtain ⟨bs, r2⟩ := ay.rds I p2 ry
    exact SeqAt.ne_plain r1 r2 p1 p2 (min60 hu p3) ⟨.bl _, H, I, rfl, k _ H R .refl (.bl _)⟩
  · cases e
def okLt (dx dy : PyData) : Bool := dx.plain && dy.plain && PySem.W.alike dx dy && (match dx with | .none => false | _ => true) && decide (min dx.depth dy.depth ≤ 60)
theorem okLt_of {dx dy : PyData} (h : okLt dx dy = true) : dx.plain = true ∧ dy.plain = true ∧ PySem.W.alike dx dy = true ∧ dx ≠ .none ∧ min dx.depth dy.depth ≤ 60 := by
  unfold okLt at h
  simp only [Bool.and_eq_true, decide_eq_true_eq] at h
  refine ⟨h.1.1.1.1, h.1.1.1.2, h.1.1.2, ?_, h.2⟩
  intro e
  rw [e] at h
  exact Bool.false_ne_true h.1.2
def ltD (dx dy : PyData) : Option PyData := if okLt dx dy then some (.bool (PySem.W.dataLt dx dy)) else none
def gtD (dx dy : PyData) : Option PyData := if okLt dx dy then some (.bool (PySem.W.dataLt dy dx)) else none
def leD (dx dy : PyData) : Option PyData := if okLt dx dy then some (.bool (!PySem.W.dataLt dy dx)) else none
def geD (dx dy : PyData) : Option PyData := if okLt dx dy then some (.bool (!PySem.W.dataLt dx dy)) else none
theorem op_ltP (hu : X.A.units + 64 < cLine) : OpD X (compareOp .Lt) ltD := by
  intro p pins sh σ H O s x y v u dx dy z Q I R rx ry ax ay e k
  unfold ltD at e
  split at e
  · rename_i ok
    cases e
    obtain ⟨p1, p2, p3, p4, p5⟩ := okLt_of ok
    obtain ⟨as, r1⟩ := ax.rds I p1 rx
    obtain ⟨bs, r2⟩ := ay.rds I p2 ry
    exact PySem.W.lt_data r1 r2 p3 p4 (min60 hu p5) ⟨.bl _, H, I, rfl, k _ H R .refl (.bl _)⟩
  · cases e
theorem op_gtP (hu : X.A.units + 64 < cLine) : OpD X (compareOp .Gt) gtD := by
  intro p pins sh σ H O s x y v u dx dy z Q I R rx ry ax ay e k
  unfold gtD at e
  split at e
  · rename_i ok
    cases e
    obtain ⟨p1, p2, p3, p4, p5⟩ := okLt_of ok
    obtain ⟨as, r1⟩ := ax.rds I p1 rx
    obtain ⟨bs, r2⟩ := ay.rds I p2 ry
    exact PySem.W.gt_data r1 r2 p3 p4 (min60 hu p5) ⟨.bl _, H, I, rfl, k _ H R .refl (.bl _)⟩
  · cases e
theorem op_leP (hu : X.A.units + 64 < cLine) : OpD X (compareOp .LtE) leD := by
  intro p pins sh σ H O s x y v u dx dy z Q I R rx ry ax ay e k
  unfold leD at e
  split at e
  · rename_i ok
    cases e
    obtain ⟨p1, p2, p3, p4, p5⟩ := okLt_of ok
    obtain ⟨as, r1⟩ := ax.rds I p1 rx
    obtain ⟨bs, r2⟩ := ay.rds I p2 ry
    exact PySem.W.le_data r1 r2 p3 p4 (min60 hu p5) ⟨.bl _, H, I, rfl, k _ H R .refl (.bl _)⟩
  · cases e
theorem op_geP (hu : X.A.units + 64 < cLine) : OpD X (compareOp .GtE) geD := by
  intro p pins sh σ H O s x y v u dx dy z Q I R rx ry ax ay e k
  unfold geD at e
  split at e
  · rename_i ok
    cases e
    obtain ⟨p1, p2, p3, p4, p5⟩ := okLt_of ok
    obtain ⟨as, r1⟩ := ax.rds I p1 rx
    obtain ⟨bs, r2⟩ := ay.rds I p2 ry
    exact PySem.W.ge_data r1 r2 p3 p4 (min60 hu p5) ⟨.bl _, H, I, rfl, k _ H R .refl (.bl _)⟩
  · cases e
/-- x in c -/
def okIn (xs : List PyData) (d : PyData) : Bool := PyData.plainAll xs && d.plain && decide (min (PyData.depthAll xs) d.depth ≤ 60)
theorem okIn_of {xs : List PyData} {d : PyData} (h : okIn xs d = true) : PyData.plainAll xs = true ∧ d.plain = true ∧ min (PyData.depthAll xs) d.depth ≤ 60 := by
  unfold okIn at h
  simp only [Bool.and_eq_true, decide_eq_true_eq] at h
  exact ⟨h.1.1, h.1.2, h.2⟩
def isIn (dx : PyData) : PyData → Option Bool
  | .list xs => if okIn xs dx then some (xs.any fun y => PyData.eqv y dx) else none
  | .tuple xs => if okIn xs dx then some (xs.any fun y => PyData.eqv y dx) else none
  | .str y => match dx with
    | .str x => some (!(Builtin.Str.occurrences y x 0 y.length 1).isEmpty)
    | _ => none
  | .dict ((.bool t, .none) :: ds) => if keyFits t dx then some (lookD dx ds).isSome else none
  | _ => none
def inD (dx dy : PyData) : Option PyData := (isIn dx dy).map .bool
def notInD (dx dy : PyData) : Option PyData := (isIn dx dy).map fun b => .bool !b
theorem hu1 {A : Around} (hu : A.units + 64 < cLine) : A.units + 1 < cLine := by omega
theorem op_inP (hu : X.A.units + 64 < cLine) : OpD X (compareOp .In) inD := by
  intro p pins sh σ H O s x y v u dx dy z Q I R rx ry ax ay e k
  unfold inD at e
  cases ei : isIn dx dy with
  | none => rw [ei] at e; cases e
  | some b =>
    rw [ei] at e
    cases e
    have fin : EP X pins σ Q (.bool b) sh := ⟨.bl _, H, I, rfl, k _ H R .refl (.bl _)⟩
    unfold isIn at ei
    split at ei
    · split at ei
      · rename_i ok
        cases ei
        obtain ⟨p1, p2, p3⟩ := okIn_of ok
        obtain ⟨as, r1⟩ := ay.rds I (by simpa [PyData.plain] using p1) ry
        obtain ⟨bs, r2⟩ := ax.rds I p2 rx
        exact SeqAt.in_list_data r1 r2 p1 p2 (min61 hu p3) fin
      · cases ei
    · split at ei
      · rename_i ok
        cases ei
        obtain ⟨p1, p2, p3⟩ := okIn_of ok
        obtain ⟨as, r1⟩ := ay.rds I (by simpa [PyData.plain] using p1) ry
        obtain ⟨bs, r2⟩ := ax.rds I p2 rx
        exact SeqAt.in_tuple_data r1 r2 p1 p2 (min61 hu p3) fin
      · cases ei
    · split at ei
      · cases ei
        cases ax.str; cases ay.str
        exact op_in_str pins sh σ H _ _ v u Q I rx ry ⟨_, _, rfl, rfl, k _ H R .refl (.bl _)⟩
      · cases ei
    · split at ei
      · rename_i t ds f
        cases ei
        obtain ⟨a, o, rfl, g, g1, g2⟩ := AtE.dget ay ax f
        obtain rfl : u = Value.ref a := ry
        have eo : o.isSome = (lookD dx ds).isSome := by
          cases el : lookD dx ds with
          | none => rw [g2 el]; rfl
          | some d => obtain ⟨w, q, _⟩ := g1 d el; rw [q]; rfl
        rw [← eo] at k
        exact d_in (hu1 hu) I g rx fun s3 I3 => ⟨.bl o.isSome, H, I3, rfl, k _ H R .refl (.bl _)⟩
      · cases ei
    · cases ei
theorem op_notInP (hu : X.A.units + 64 < cLine) : OpD X (compareOp .NotIn) notInD := by
  intro p pins sh σ H O s x y v u dx dy z Q I R rx ry ax ay e k
  unfold notInD at e
  cases ei : isIn dx dy with
  | none => rw [ei] at e; cases e
  | some b =>
    rw [ei] at e
    cases e
    have fin : EP X pins σ Q (.bool !b) sh := ⟨.bl _, H, I, rfl, k _ H R .refl (.bl _)⟩
    unfold isIn at ei
    split at ei
    · split at ei
      · rename_i ok
        cases ei
        obtain ⟨p1, p2, p3⟩ := okIn_of ok
        obtain ⟨as, r1⟩ := ay.rds I (by simpa [PyData.plain] using p1) ry
        obtain ⟨bs, r2⟩ := ax.rds I p2 rx
        exact SeqAt.notIn_list_data r1 r2 p1 p2 (min61 hu p3) fin
      · cases ei
    · split at ei
      · rename_i ok
        cases ei
        obtain ⟨p1, p2, p3⟩ := okIn_of ok
        obtain ⟨as, r1⟩ := ay.rds I (by simpa [PyData.plain] using p1) ry
        obtain ⟨bs, r2⟩ := ax.rds I p2 rx
        exact SeqAt.notIn_tuple_data r1 r2 p1 p2 (min61 hu p3) fin
      · cases ei
    · split at ei
      · cases ei
        cases ax.str; cases ay.str
        exact L2.op_notin_str pins sh σ H _ _ v u Q I rx ry ⟨_, _, rfl, rfl, k _ H R .refl (.bl _)⟩
      · cases ei
    · split at ei
      · rename_i t ds f
        cases ei
        obtain ⟨a, o, rfl, g, g1, g2⟩ := AtE.dget ay ax f
        obtain rfl : u = Value.ref a := ry
        have eo : o.isSome = (lookD dx ds).isSome := by
          cases el : lookD dx ds with
          | none => rw [g2 el]; rfl
          | some d => obtain ⟨w, q, _⟩ := g1 d el; rw [q]; rfl
        rw [← eo] at k
        exact d_notIn (hu1 hu) I g rx fun s3 I3 => ⟨.bl (!o.isSome), H, I3, rfl, k _ H R .refl (.bl _)⟩
      · cases ei
    · cases ei
/-- is None, is not None -/
def isNone : PyData → Bool
  | .none => true
  | _ => false
def isD (dx dy : PyData) : Option PyData := match dy with
  | .none => some (.bool (isNone dx))
  | _ => none
def isNotD (dx dy : PyData) : Option PyData := match dy with
  | .none => some (.bool !(isNone dx))
  | _ => none
theorem AtE.isNon {x : V} (h : AtE K O H x d) : decide (x = V.non) = isNone d := by
  rcases h with h | ⟨b, rfl, h⟩
  · cases h <;> simp [isNone]
  · cases h <;> simp [isNone, dicD]
theorem op_isP : OpD X (compareOp .Is) isD := by
  intro p pins sh σ H O s x y v u dx dy z Q I R rx ry ax ay e k
  unfold isD at e
  split at e
  · cases e
    cases ay.non
    exact op_isN pins sh σ H _ _ v u Q I rx ry ⟨rfl, by rw [ax.isNon]; exact k _ H R .refl (.bl _)⟩
  · cases e
theorem op_isNotP : OpD X (compareOp .IsNot) isNotD := by
  intro p pins sh σ H O s x y v u dx dy z Q I R rx ry ax ay e k
  unfold isNotD at e
  split at e
  · cases e
    cases ay.non
    exact op_notN pins sh σ H _ _ v u Q I rx ry ⟨rfl, by rw [ax.isNon]; exact k _ H R .refl (.bl _)⟩
  · cases e

/-! ### a op1 b op2 c -/
variable {ea eb ec : Expr} {pos : Pos}
@[simp] def tChn (f g : PyData → PyData → Option PyData) (ta tb tc : PTL) : PTE := fun s Q => ta s fun x s1 => tb s1 fun y s2 => ∃ dx dy k, rd s2 x = some dx ∧ rd s2 y = some dy ∧ f dx dy = some (.bool k) ∧
  if k = true then tc s2 fun z s3 => ∃ dy' dz r, rd s3 y = some dy' ∧ rd s3 z = some dz ∧ g dy' dz = some r ∧ Q r s3 else Q (.bool false) s2
theorem OpD.bool {f : PyData → PyData → Option PyData} {g : Value → Value → Sem Value} (ho : OpD X g f) {pins : List (Addr × Obj)} {sh : Shared} {x y : V} {w u : Value} {dx dy : PyData} {k : Bool} {Q : Value → Shared → Prop} (I : Inv X pins σ H sh) (R : Rl X.K p O σ H s) (rx : RelV x w) (ry : RelV y u)
    (ax : AtE X.K O H x dx) (ay : AtE X.K O H y dy) (e : f dx dy = some (.bool k)) (h : ∀ s' H', Inv X pins σ H' s' → Rl X.K p O σ H' s → Kp O H O H' → Q (.bool k) s') : wpAny (model X.prog X.w) X.A (g w u) Q X.xe sh := by
  refine thn (ho p pins sh σ H O s x y w u dx dy (.bool k) (fun z H' => z = .bl k ∧ Rl X.K p O σ H' s ∧ Kp O H O H') I R rx ry ax ay e fun z H' R' k' a => ?_) fun z s' ⟨z', H', I', rz, ez, R', k'⟩ => ?_
  · cases a; exact ⟨rfl, R', k'⟩
  · subst ez
    obtain rfl : z = Value.bool k := rz
    exact h s' H' I' R' k'
theorem de_chn {op op' : CmpOp} {f g : PyData → PyData → Option PyData} {ta tb tc : PTL} (ho : OpD X (compareOp op) f) (ho' : OpD X (compareOp op') g) (ha : DL X ea ta) (hb : DL X eb tb) (hc : DL X ec tc)
    (hm : lastMarks [op, op'] [eb, ec] = false := by with_unfolding_all rfl) : DE X (.Compare ea [op, op'] [eb, ec] pos) (tChn f g ta tb tc) := by
  refine ⟨⟨fun pins sh σ H Q I h => ?_⟩, fun s Q Q' w q => ha.mono _ _ _ (fun x s1 q1 => hb.mono _ _ _ (fun y s2 ⟨dx, dy, k, e1, e2, e3, q2⟩ => ⟨dx, dy, k, e1, e2, e3, ?_⟩) q1) q⟩
  · obtain ⟨p, O, s, R, q⟩ := h
    refine Compare_chain (thn (ha.pe.run pins sh σ H _ I ⟨p, O, s, R, ha.mono _ _ _ (fun x s1 q1 vx O1 H1 R1 k1 a1 => show ∃ O1 s1 x, Rl X.K p O1 σ H1 s1 ∧ RvOk X.K p O1 σ H1 vx x ∧ Kp O H O1 H1 ∧ _ from ⟨O1, s1, x, R1, a1, k1, q1⟩) q⟩) fun v s1 ⟨vx, H1, I1, r1, O1, p1, x, R1, a1, k1, q1⟩ =>
      chain_link (thn (hb.pe.run pins s1 σ H1 _ I1 ⟨p, O1, p1, R1, hb.mono _ _ _ (fun y s2 q2 vy O2 H2 R2 k2 a2 => show ∃ O2 s2 y, Rl X.K p O2 σ H2 s2 ∧ RvOk X.K p O2 σ H2 vy y ∧ Kp O1 H1 O2 H2 ∧ _ from ⟨O2, s2, y, R2, a2, k2, q2⟩) q1⟩) fun u s2 ⟨vy, H2, I2, r2, O2, p2, y, R2, a2, k2, dx, dy, k, e1, e2, e3, q3⟩ => ?_)) hm
    refine ho.bool I2 R2 r1 r2 (R2.read (a1.to k2) e1) (R2.read a2 e2) e3 fun s3 H3 I3 R3 k3 => ?_
    refine wpAny_truthy_bool ?_
    cases k with
    | true =>
      simp only [if_true] at q3 ⊢
      refine chain_last (thn (hc.pe.run pins s3 σ H3 _ I3 ⟨p, O2, p2, R3, hc.mono _ _ _ (fun z s4 q4 vz O4 H4 R4 k4 a4 => show ∃ O4 s4 z, Rl X.K p O4 σ H4 s4 ∧ RvOk X.K p O4 σ H4 vz z ∧ Kp O2 H3 O4 H4 ∧ _ from ⟨O4, s4, z, R4, a4, k4, q4⟩) q3⟩) fun t s4 ⟨vz, H4, I4, r4, O4, p4, z, R4, a4, k4, dy', dz, r, f1, f2, f3, q5⟩ => ?_)
      exact ho' p pins s4 σ H4 O4 p4 vy vz u t dy' dz r Q I4 R4 r2 r4 (R4.read ((a2.to k3).to k4) f1) (R4.read a4 f2) f3 fun w H5 R5 k5 a5 => q5 w O4 H5 R5 ((k1.trans k2).trans (k3.trans (k4.trans k5))) a5
    | false =>
      simp only [Bool.false_eq_true, if_false] at q3 ⊢
      exact ⟨.bl false, H3, I3, rfl, q3 _ O2 H3 R3 ((k1.trans k2).trans k3) (.bl false)⟩
  · cases k with
    | true =>
      simp only [if_true] at q2 ⊢
      exact hc.mono _ _ _ (fun z s3 ⟨dy', dz, r, f1, f2, f3, q5⟩ => ⟨dy', dz, r, f1, f2, f3, w _ _ q5⟩) q2
    | false =>
      simp only [Bool.false_eq_true, if_false] at q2 ⊢
      exact w _ _ q2

/-! ### tests -/
abbrev PTT := PSt → (Bool → PSt → Prop) → Prop
def MonoT (t : PTT) : Prop := ∀ s Q Q', (∀ b s', Q b s' → Q' b s') → t s Q → t s Q'
def liftT (K : PySem.W.Frag) (t : PTT) : TT := fun σ H QB => ∃ p O s, Rl K p O σ H s ∧ t s fun b s' => ∀ O' H', Rl K p O' σ H' s' → Kp O H O' H' → QB b H'
structure DT (X : Cx) (e : Expr) (t : PTT) : Prop where
  pt : PT X e (liftT X.K t)
  mono : MonoT t
theorem PT.weak {X : Cx} {e : Expr} {t t' : TT} (h : PT X e t) (w : ∀ σ H Q, t' σ H Q → t σ H Q) : PT X e t' := ⟨fun pins s σ H Q I q => h.run pins s σ H Q I (w _ _ _ q)⟩
/-- a truth value's test -/
@[simp] def tBo (t : PTE) : PTT := fun s Q => t s fun d s' => ∃ b, d = .bool b ∧ Q b s'
theorem mono_bo {t : PTE} (h : Mono t) : MonoT (tBo t) := fun s Q Q' w q => h _ _ _ (fun d s' ⟨b, e, q⟩ => ⟨b, e, w _ _ q⟩) q
theorem dt_val {e : Expr} {t : PTE} (h : DE X e t) (he : ∀ whole, isTrue e X.env whole = (do let v ← whole; standAt e.pos; holding [v] (truthy v)) := by intro _; rfl) : DT X e (tBo t) := by
  refine ⟨PT.weak (pt_val h.pe he) fun σ H Q ⟨p, O, s, R, q⟩ => ⟨p, O, s, R, h.mono _ _ _ (fun d s' ⟨b, e, q⟩ v O' H' R' k' a => ?_) q⟩, mono_bo h.mono⟩
  subst e
  cases a
  exact ⟨b, rfl, q O' H' R' k'⟩
theorem dt_cmp {op : CmpOp} {f : PyData → PyData → Option PyData} {ta tb : PTL} (ho : OpD X (compareOp op) f) (ha : DL X ea ta) (hb : DL X eb tb)
    (hm : behindInMarks op eb = false := by first | exact nomark _ | rfl) : DT X (.Compare ea [op] [eb] pos) (tBo (tBin f ta tb)) := by
  refine ⟨⟨fun pins sh σ H Q I h => ?_⟩, mono_bo (mono_bin ha.mono hb.mono)⟩
  obtain ⟨p, O, s, R, q⟩ := h
  refine wpAny_isTrue_Compare1 (thn (ha.pe.run pins sh σ H _ I ⟨p, O, s, R, ha.mono _ _ _ (fun x s1 q1 vx O1 H1 R1 k1 a1 => show ∃ O1 s1 x, Rl X.K p O1 σ H1 s1 ∧ RvOk X.K p O1 σ H1 vx x ∧ Kp O H O1 H1 ∧ _ from ⟨O1, s1, x, R1, a1, k1, q1⟩) q⟩) fun v s1 ⟨vx, H1, I1, r1, O1, p1, x, R1, a1, k1, q1⟩ =>
    thn (hb.pe.run pins s1 σ H1 _ I1 ⟨p, O1, p1, R1, hb.mono _ _ _ (fun y s2 q2 vy O2 H2 R2 k2 a2 => show ∃ O2 s2 y, Rl X.K p O2 σ H2 s2 ∧ RvOk X.K p O2 σ H2 vy y ∧ Kp O1 H1 O2 H2 ∧ _ from ⟨O2, s2, y, R2, a2, k2, q2⟩) q1⟩) fun u s2 ⟨vy, H2, I2, r2, O2, p2, y, R2, a2, k2, dx, dy, z, e1, e2, e3, b, eb, q3⟩ => ?_) hm
  subst eb
  exact ho.bool I2 R2 r1 r2 (R2.read (a1.to k2) e1) (R2.read a2 e2) e3 fun s3 H3 I3 R3 k3 => wpAny_truthy_bool ⟨H3, I3, q3 O2 H3 R3 ((k1.trans k2).trans k3)⟩
theorem dt_chn {op op' : CmpOp} {f g : PyData → PyData → Option PyData} {ta tb tc : PTL} (ho : OpD X (compareOp op) f) (ho' : OpD X (compareOp op') g) (ha : DL X ea ta) (hb : DL X eb tb) (hc : DL X ec tc)
    (hm : lastMarks [op, op'] [eb, ec] = false := by with_unfolding_all rfl) : DT X (.Compare ea [op, op'] [eb, ec] pos) (tBo (tChn f g ta tb tc)) := by
  refine ⟨⟨fun pins sh σ H Q I h => ?_⟩, mono_bo (de_chn (pos := pos) ho ho' ha hb hc hm).mono⟩
  obtain ⟨p, O, s, R, q⟩ := h
  refine isTrue_chain (thn (ha.pe.run pins sh σ H _ I ⟨p, O, s, R, ha.mono _ _ _ (fun x s1 q1 vx O1 H1 R1 k1 a1 => show ∃ O1 s1 x, Rl X.K p O1 σ H1 s1 ∧ RvOk X.K p O1 σ H1 vx x ∧ Kp O H O1 H1 ∧ _ from ⟨O1, s1, x, R1, a1, k1, q1⟩) q⟩) fun v s1 ⟨vx, H1, I1, r1, O1, p1, x, R1, a1, k1, q1⟩ =>
    test_link (thn (hb.pe.run pins s1 σ H1 _ I1 ⟨p, O1, p1, R1, hb.mono _ _ _ (fun y s2 q2 vy O2 H2 R2 k2 a2 => show ∃ O2 s2 y, Rl X.K p O2 σ H2 s2 ∧ RvOk X.K p O2 σ H2 vy y ∧ Kp O1 H1 O2 H2 ∧ _ from ⟨O2, s2, y, R2, a2, k2, q2⟩) q1⟩) fun u s2 ⟨vy, H2, I2, r2, O2, p2, y, R2, a2, k2, dx, dy, k, e1, e2, e3, q3⟩ => ?_)) hm
  refine ho.bool I2 R2 r1 r2 (R2.read (a1.to k2) e1) (R2.read a2 e2) e3 fun s3 H3 I3 R3 k3 => ?_
  refine wpAny_truthy_bool ?_
  cases k with
  | true =>
    simp only [if_true] at q3 ⊢
    refine test_last (thn (hc.pe.run pins s3 σ H3 _ I3 ⟨p, O2, p2, R3, hc.mono _ _ _ (fun z s4 q4 vz O4 H4 R4 k4 a4 => show ∃ O4 s4 z, Rl X.K p O4 σ H4 s4 ∧ RvOk X.K p O4 σ H4 vz z ∧ Kp O2 H3 O4 H4 ∧ _ from ⟨O4, s4, z, R4, a4, k4, q4⟩) q3⟩) fun t s4 ⟨vz, H4, I4, r4, O4, p4, z, R4, a4, k4, dy', dz, r, f1, f2, f3, b, er, q5⟩ => ?_)
    subst er
    exact ho'.bool I4 R4 r2 r4 (R4.read ((a2.to k3).to k4) f1) (R4.read a4 f2) f3 fun s5 H5 I5 R5 k5 => wpAny_truthy_bool ⟨H5, I5, q5 O4 H5 R5 ((k1.trans k2).trans (k3.trans (k4.trans k5)))⟩
  | false =>
    simp only [Bool.false_eq_true, if_false] at q3 ⊢
    obtain ⟨b, eb, q3⟩ := q3
    cases eb
    exact ⟨H3, I3, q3 O2 H3 R3 ((k1.trans k2).trans k3)⟩
/-- by truth -/
@[simp] def okTru : PyData → Bool
  | .str x => decide (x.length ≤ sizeLine)
  | .dict ((.bool false, .none) :: _) => true
  | .dict _ => false
  | _ => true
@[simp] def truD : PyData → Bool
  | .dict (_ :: ds) => !ds.isEmpty
  | d => d.truthy
theorem AtL.empty {xs : List V} {ds : List PyData} (h : AtL K O H xs ds) : xs.isEmpty = ds.isEmpty := by cases h <;> rfl
theorem AtK.empty {xs : List (Key × V)} {ds : List (PyData × PyData)} (h : AtK K O H xs ds) : xs.isEmpty = ds.isEmpty := by cases h <;> rfl
theorem AtE.tru {x : V} (h : AtE K O H x d) (ok : okTru d = true) : TruV K x H (truD d) := by
  cases d with
  | none => cases h.non; exact rfl
  | bool b => cases h.bl; exact rfl
  | int i => cases h.int; exact rfl
  | str z => cases h.str; exact ⟨of_decide_eq_true ok, rfl⟩
  | list ds =>
    obtain ⟨a, xs, rfl, h1, h2⟩ := h.lst
    exact .inl ⟨xs, SqL.of h1, by rw [h2.empty]; rfl⟩
  | tuple ds =>
    obtain ⟨a, xs, rfl, h1, h2⟩ := h.tup
    exact .inr (.inl ⟨xs, h1.sq, by rw [h2.empty]; rfl⟩)
  | dict ds =>
    rcases h with h | ⟨a, rfl, h⟩
    · cases h with
      | dicK h1 h2 h3 => exact .inr (.inr ⟨_, h2, by rw [h3.empty]; rfl⟩)
      | dicT h1 h2 h3 => cases ok
    · cases h with
      | dicK h2 h3 => exact .inr (.inr ⟨_, h2, by rw [h3.empty]; rfl⟩)
      | dicT h2 h3 => cases ok
@[simp] def tTr (t : PTL) : PTT := fun s Q => t s fun x s' => ∃ d, rd s' x = some d ∧ okTru d = true ∧ Q (truD d) s'
theorem dt_tru {e : Expr} {t : PTL} (h : DL X e t) (he : ∀ whole, isTrue e X.env whole = (do let v ← whole; standAt e.pos; holding [v] (truthy v)) := by intro _; rfl) : DT X e (tTr t) := by
  refine ⟨PT.weak (pt_truth h.pe he) fun σ H Q ⟨p, O, s, R, q⟩ => ⟨p, O, s, R, h.mono _ _ _ (fun x s' ⟨d, e, ok, q⟩ v O' H' R' k' a => ?_) q⟩, fun s Q Q' w q => h.mono _ _ _ (fun x s' ⟨d, e, ok, q⟩ => ⟨d, e, ok, w _ _ q⟩) q⟩
  exact ⟨_, (R'.read a e).tru ok, q O' H' R' k'⟩
@[simp] def tNt (t : PTT) : PTT := fun s Q => t s fun b s' => Q (!b) s'
theorem dt_not {e : Expr} {t : PTT} (h : DT X e t) : DT X (.UnaryOp .Not e pos) (tNt t) :=
  ⟨PT.weak (pt_not h.pt) fun σ H Q ⟨p, O, s, R, q⟩ => ⟨p, O, s, R, h.mono _ _ _ (fun b s' q O' H' R' k' => q O' H' R' k') q⟩, fun s Q Q' w q => h.mono _ _ _ (fun b s' => w (!b) s') q⟩
/-- .. in a row -/
structure DW (X : Cx) (e : Expr) (t : PTT) : Prop where
  pw : PW X e (liftT X.K t)
  mono : MonoT t
theorem DW.dt {e : Expr} {t : PTT} (h : DW X e t) : DT X e t := ⟨h.pw.pt, h.mono⟩
theorem PW.weak {X : Cx} {e : Expr} {t t' : TT} (h : PW X e t) (w : ∀ σ H Q, t' σ H Q → t σ H Q) : PW X e t' := ⟨fun wh pins s σ H Q I q => h.run wh pins s σ H Q I (w _ _ _ q)⟩
variable {rest : List Expr}
@[simp] def tAn (t u : PTT) : PTT := fun s Q => t s fun b s' => if b = true then u s' Q else Q false s'
@[simp] def tOr (t u : PTT) : PTT := fun s Q => t s fun b s' => if b = true then Q true s' else u s' Q
theorem mono_an {t u : PTT} (h : MonoT t) (k : MonoT u) : MonoT (tAn t u) := fun s Q Q' w q => h _ _ _ (fun b s' q => by
  cases b
  · simp only [Bool.false_eq_true, if_false] at q ⊢; exact w _ _ q
  · simp only [if_true] at q ⊢; exact k _ _ _ w q) q
theorem mono_or {t u : PTT} (h : MonoT t) (k : MonoT u) : MonoT (tOr t u) := fun s Q Q' w q => h _ _ _ (fun b s' q => by
  cases b
  · simp only [Bool.false_eq_true, if_false] at q ⊢; exact k _ _ _ w q
  · simp only [if_true] at q ⊢; exact w _ _ q) q
theorem dw_and1 {t : PTT} (h : DT X ea t) : DW X (.BoolOp .And [ea] pos) t := ⟨pw_and1 h.pt, h.mono⟩
theorem dw_or1 {t : PTT} (h : DT X ea t) : DW X (.BoolOp .Or [ea] pos) t := ⟨pw_or1 h.pt, h.mono⟩
theorem dw_and {t u : PTT} (h : DT X ea t) (k : DW X (.BoolOp .And (eb :: rest) pos) u) : DW X (.BoolOp .And (ea :: eb :: rest) pos) (tAn t u) := by
  refine ⟨PW.weak (pw_and h.pt k.pw) fun σ H Q ⟨p, O, s, R, q⟩ => ⟨p, O, s, R, h.mono _ _ _ (fun b s' q O' H' R' k' => ?_) q⟩, mono_an h.mono k.mono⟩
  cases b
  · simp only [Bool.false_eq_true, if_false] at q ⊢; exact q O' H' R' k'
  · simp only [if_true] at q ⊢
    exact ⟨p, O', s', R', k.mono _ _ _ (fun b s2 q2 O2 H2 R2 k2 => q2 O2 H2 R2 (k'.trans k2)) q⟩
theorem dw_or {t u : PTT} (h : DT X ea t) (k : DW X (.BoolOp .Or (eb :: rest) pos) u) : DW X (.BoolOp .Or (ea :: eb :: rest) pos) (tOr t u) := by
  refine ⟨PW.weak (pw_or h.pt k.pw) fun σ H Q ⟨p, O, s, R, q⟩ => ⟨p, O, s, R, h.mono _ _ _ (fun b s' q O' H' R' k' => ?_) q⟩, mono_or h.mono k.mono⟩
  cases b
  · simp only [Bool.false_eq_true, if_false] at q ⊢
    exact ⟨p, O', s', R', k.mono _ _ _ (fun b s2 q2 O2 H2 R2 k2 => q2 O2 H2 R2 (k'.trans k2)) q⟩
  · simp only [if_true] at q ⊢; exact q O' H' R' k'

/-! ### and, or, not as values; a if t else b -/
theorem At.tru {x : V} (h : At K O H x d) (ok : okTru d = true) : TruV K x H (truD d) := AtE.tru (.inl h) ok
@[simp] def tAnV (t u : PTE) : PTE := fun s Q => t s fun d s' => okTru d = true ∧ if truD d = true then u s' Q else Q d s'
@[simp] def tOrV (t u : PTE) : PTE := fun s Q => t s fun d s' => okTru d = true ∧ if truD d = true then Q d s' else u s' Q
@[simp] def tNtV (t : PTL) : PTE := fun s Q => t s fun x s' => ∃ d, rd s' x = some d ∧ okTru d = true ∧ Q (.bool !(truD d)) s'
theorem de_one {op} {t : PTE} (h : DE X ea t) : DE X (.BoolOp op [ea] pos) t := ⟨pe_one h.pe, h.mono⟩
theorem de_and {t u : PTE} (h : DE X ea t) (k : DE X (.BoolOp .And (eb :: rest) pos) u) : DE X (.BoolOp .And (ea :: eb :: rest) pos) (tAnV t u) := by
  refine ⟨PE.weak (pe_andT h.pe k.pe) fun σ H Q ⟨p, O, s, R, q⟩ => ⟨p, O, s, R, h.mono _ _ _ (fun d s' ⟨ok, q⟩ v O' H' R' k' a => ⟨_, a.tru ok, ?_⟩) q⟩, fun s Q Q' w q => h.mono _ _ _ (fun d s' ⟨ok, q⟩ => ⟨ok, ?_⟩) q⟩
  · split
    · rename_i e; rw [if_pos e] at q
      exact ⟨p, O', s', R', k.mono _ _ _ (fun d s2 q2 v2 O2 H2 R2 k2 a2 => q2 v2 O2 H2 R2 (k'.trans k2) a2) q⟩
    · rename_i e; rw [if_neg e] at q; exact q v O' H' R' k' a
  · split
    · rename_i e; rw [if_pos e] at q; exact k.mono _ _ _ w q
    · rename_i e; rw [if_neg e] at q; exact w _ _ q
theorem de_or {t u : PTE} (h : DE X ea t) (k : DE X (.BoolOp .Or (eb :: rest) pos) u) : DE X (.BoolOp .Or (ea :: eb :: rest) pos) (tOrV t u) := by
  refine ⟨PE.weak (pe_orT h.pe k.pe) fun σ H Q ⟨p, O, s, R, q⟩ => ⟨p, O, s, R, h.mono _ _ _ (fun d s' ⟨ok, q⟩ v O' H' R' k' a => ⟨_, a.tru ok, ?_⟩) q⟩, fun s Q Q' w q => h.mono _ _ _ (fun d s' ⟨ok, q⟩ => ⟨ok, ?_⟩) q⟩
  · split
    · rename_i e; rw [if_pos e] at q; exact q v O' H' R' k' a
    · rename_i e; rw [if_neg e] at q
      exact ⟨p, O', s', R', k.mono _ _ _ (fun d s2 q2 v2 O2 H2 R2 k2 a2 => q2 v2 O2 H2 R2 (k'.trans k2) a2) q⟩
  · split
    · rename_i e; rw [if_pos e] at q; exact w _ _ q
    · rename_i e; rw [if_neg e] at q; exact k.mono _ _ _ w q
theorem de_not {t : PTL} (h : DL X ea t) : DE X (.UnaryOp .Not ea pos) (tNtV t) :=
  ⟨PE.weak (pe_notT h.pe) fun σ H Q ⟨p, O, s, R, q⟩ => ⟨p, O, s, R, h.mono _ _ _ (fun x s' ⟨d, e, ok, q⟩ v O' H' R' k' a => ⟨_, (R'.read a e).tru ok, q _ O' H' R' k' (.bl _)⟩) q⟩, fun s Q Q' w q => h.mono _ _ _ (fun x s' ⟨d, e, ok, q⟩ => ⟨d, e, ok, w _ _ q⟩) q⟩
@[simp] def tIfE (t : PTT) (u w : PTE) : PTE := fun s Q => t s fun b s' => if b = true then u s' Q else w s' Q
theorem de_if {t : PTT} {u w : PTE} (h : DT X ec t) (k : DE X ea u) (l : DE X eb w) : DE X (.IfExp ec ea eb pos) (tIfE t u w) := by
  refine ⟨PE.weak (pe_ifExp h.pt k.pe l.pe) fun σ H Q ⟨p, O, s, R, q⟩ => ⟨p, O, s, R, h.mono _ _ _ (fun b s' q O' H' R' k' => ?_) q⟩, fun s Q Q' z q => h.mono _ _ _ (fun b s' q => ?_) q⟩
  · cases b
    · exact ⟨p, O', s', R', l.mono _ _ _ (fun d s2 q2 v2 O2 H2 R2 k2 a2 => q2 v2 O2 H2 R2 (k'.trans k2) a2) q⟩
    · exact ⟨p, O', s', R', k.mono _ _ _ (fun d s2 q2 v2 O2 H2 R2 k2 a2 => q2 v2 O2 H2 R2 (k'.trans k2) a2) q⟩
  · cases b
    · exact l.mono _ _ _ z q
    · exact k.mono _ _ _ z q
end
end PD
end
section
set_option Elab.async false
set_option linter.all false
set_option maxRecDepth 100000
set_option maxHeartbeats 4000000
/-! PD6: argument lists, displays, subscripts, slices over data. -/
namespace PD
open PySem PySem.Spec PyProof.Rows L2

abbrev PTA := PSt → (List PyData → PSt → Prop) → Prop
def MonoA (t : PTA) : Prop := ∀ s Q Q', (∀ d s', Q d s' → Q' d s') → t s Q → t s Q'
def liftA (K : PySem.W.Frag) (t : PTA) : TA := fun σ H QV => ∃ p O s, Rl K p O σ H s ∧ t s fun ds s' => ∀ vs O' H', Rl K p O' σ H' s' → Kp O H O' H' → AtL K O' H' vs ds → QV vs H'
structure DA (X : Cx) (es : List Expr) (t : PTA) : Prop where
  pa : PA X es (liftA X.K t)
  mono : MonoA t
theorem PA.weak {X : Cx} {e : List Expr} {t t' : TA} (h : PA X e t) (w : ∀ σ H Q, t' σ H Q → t σ H Q) : PA X e t' := ⟨fun pos pins s σ H Q I q => h.run pos pins s σ H Q I (w _ _ _ q)⟩
section
variable {K : PySem.W.Frag} {X : Cx} {p : Pm} {O O' : Ow} {σ : L2.St} {H H' : Hp} {s : PSt} {v : V} {d : PyData} {a : Addr} {e ea eb : Expr} {es : List Expr} {pos : Pos}
@[simp] def tNl : PTA := fun s Q => Q [] s
@[simp] def tCn (t : PTE) (u : PTA) : PTA := fun s Q => t s fun d s1 => u s1 fun ds s2 => Q (d :: ds) s2
theorem da_nil : DA X [] tNl := ⟨PA.weak pa_nil fun σ H Q ⟨p, O, s, R, q⟩ => q [] O H R .refl .nil, fun s Q Q' w q => w _ _ q⟩
theorem da_cons {t : PTE} {u : PTA} (h : DE X e t) (k : DA X es u) (hs : starEach (e :: es) X.env = (false, eval e X.env) :: starEach es X.env := by rfl) : DA X (e :: es) (tCn t u) :=
  ⟨PA.weak (pa_cons h.pe k.pa hs) fun σ H Q ⟨p, O, s, R, q⟩ => ⟨p, O, s, R, h.mono _ _ _ (fun d s1 q1 v1 O1 H1 R1 k1 a1 => ⟨p, O1, s1, R1, k.mono _ _ _ (fun ds s2 q2 vs O2 H2 R2 k2 a2 => q2 (v1 :: vs) O2 H2 R2 (k1.trans k2) (.cons (a1.to k2) a2)) q1⟩) q⟩,
    fun s Q Q' w q => h.mono _ _ _ (fun d s1 q1 => k.mono _ _ _ (fun ds s2 => w (d :: ds) s2) q1) q⟩

/-! ### displays -/
@[simp] def tTp (t : PTA) : PTE := fun s Q => t s fun ds s' => ds.length ≤ sizeLine ∧ Q (.tuple ds) s'
@[simp] def tLs (t : PTA) : PTE := fun s Q => t s fun ds s' => ds.length ≤ sizeLine ∧ Q (.list ds) s'
theorem mono_tp {t : PTA} (h : MonoA t) : Mono (tTp t) := fun s Q Q' w q => h _ _ _ (fun ds s' q => ⟨q.1, w _ _ q.2⟩) q
theorem mono_ls {t : PTA} (h : MonoA t) : Mono (tLs t) := fun s Q Q' w q => h _ _ _ (fun ds s' q => ⟨q.1, w _ _ q.2⟩) q
theorem de_tup {x1} {t : PTA} (h : DA X es t) : DE X (.Tuple es x1 pos) (tTp t) :=
  ⟨PE.weak (pe_tup h.pa) fun σ H Q ⟨p, O, s, R, q⟩ => ⟨p, O, s, R, h.mono _ _ _ (fun ds s' ⟨z, q⟩ vs O' H' R' k' a => ⟨by rw [a.len]; exact z, fun l hl => by
    obtain ⟨f1, f2, f3⟩ := fin_tup R' hl a
    exact q _ _ _ f1 (k'.trans f2) f3⟩) q⟩, mono_tp h.mono⟩
theorem df_lst {t : PTA} (h : DA X es t) : DF X (.List es pos) (tLs t) :=
  ⟨PE.weak (pe_lst h.pa) fun σ H Q ⟨p, O, s, R, q⟩ => ⟨p, O, s, R, h.mono _ _ _ (fun ds s' ⟨z, q⟩ vs O' H' R' k' a => ⟨by rw [a.len]; exact z, fun l hl => by
    obtain ⟨f1, f2, f3⟩ := fin_lone R' hl a
    exact q _ _ _ f1 (k'.trans f2) f3⟩) q⟩, mono_ls h.mono⟩
/-- {}: its keys ints and texts, or tuples -/
theorem fin_dic {q : Addr} {t : Bool} (R : Rl K p O σ H s) (hq : H q = none) : Rl K p (O.with q) σ (upd H q (if t then .dT [] else .dK [])) s ∧ Kp O H (O.with q) (upd H q (if t then .dT [] else .dK [])) ∧ Lone K p (O.with q) σ (upd H q (if t then .dT [] else .dK [])) s q (dicD t []) :=
  ⟨R.newOwn hq, Kp.newOwn hq, .inr rfl, (R.fresh hq).1, (R.fresh hq).2.1, by cases t <;> first | exact .dicK upd_same .nil | exact .dicT upd_same .nil, (R.fresh hq).2.2⟩
@[simp] def tDn (t : Bool) : PTE := fun s Q => Q (dicD t []) s
theorem df_dicK : DF X (.Dict [] [] pos) (tDn false) :=
  ⟨PE.weak pe_dnewK fun σ H Q ⟨p, O, s, R, q⟩ l hl => by
    obtain ⟨f1, f2, f3⟩ := fin_dic (t := false) R hl
    exact q _ _ _ f1 f2 f3, fun s Q Q' w q => w _ _ q⟩
theorem df_dicT : DF X (.Dict [] [] pos) (tDn true) :=
  ⟨PE.weak pe_dnewT fun σ H Q ⟨p, O, s, R, q⟩ l hl => by
    obtain ⟨f1, f2, f3⟩ := fin_dic (t := true) R hl
    exact q _ _ _ f1 f2 f3, fun s Q Q' w q => w _ _ q⟩

/-! ### fresh results of operators -/
def catL : PyData → PyData → Option PyData
  | .list xs, .list ys => if xs.length + ys.length ≤ sizeLine then some (.list (xs ++ ys)) else none
  | _, _ => none
def repL : PyData → PyData → Option PyData
  | .list xs, .int n => if -(2 ^ 63) ≤ n ∧ n < 2 ^ 63 ∧ xs.length * n.toNat ≤ sizeLine then some (.list (repD n xs)) else none
  | _, _ => none
def OpF (X : Cx) (g : Value → Value → Sem Value) (f : PyData → PyData → Option PyData) : Prop :=
  ∀ (p : Pm) (pins : List (Addr × Obj)) (sh : Shared) (σ : L2.St) (H : Hp) (O : Ow) (s : PSt) (x y : V) (v u : Value) (dx dy z : PyData) (QV : VK), Inv X pins σ H sh → Rl X.K p O σ H s → RelV x v → RelV y u →
    AtE X.K O H x dx → AtE X.K O H y dy → f dx dy = some z → (∀ a O' H', Rl X.K p O' σ H' s → Kp O H O' H' → Lone X.K p O' σ H' s a z → QV (.ref a) H') → wpAny (model X.prog X.w) X.A (g v u) (EP X pins σ QV) X.xe sh
theorem df_op {op : Operator} {f : PyData → PyData → Option PyData} {ta tb : PTL} (ho : OpF X (binaryOp op) f) (ha : DL X ea ta) (hb : DL X eb tb) : DF X (.BinOp ea op eb pos) (tBin f ta tb) := by
  refine ⟨⟨fun pins sh σ H Q I h => ?_⟩, mono_bin ha.mono hb.mono⟩
  obtain ⟨p, O, s, R, q⟩ := h
  refine wpAny_BinOp (binT ha.pe hb.pe I (two (T := fun x y H2 => ∃ O' s' dx dy z, Rl X.K p O' σ H2 s' ∧ AtE X.K O' H2 x dx ∧ AtE X.K O' H2 y dy ∧ f dx dy = some z ∧ ∀ a O3 H3, Rl X.K p O3 σ H3 s' → Kp O' H2 O3 H3 → Lone X.K p O3 σ H3 s' a z → Q (.ref a) H3) ha hb R q ?_) fun v u s2 x y H2 I2 rx ry q2 => ?_)
  · rintro x y vx vy O' H' s' R' k' a1 a2 ⟨dx, dy, z, e1, e2, e3, q3⟩
    exact ⟨O', s', dx, dy, z, R', R'.read a1 e1, R'.read a2 e2, e3, fun w O3 H3 R3 k3 a3 => q3 w O3 H3 R3 (k'.trans k3) a3⟩
  · obtain ⟨O', s', dx, dy, z, R', a1, a2, e3, q3⟩ := q2
    exact ho p pins s2 σ H2 O' s' x y v u dx dy z Q I2 R' rx ry a1 a2 e3 q3
theorem op_catF : OpF X (binaryOp .Add) catL := by
  intro p pins sh σ H O s x y v u dx dy z Q I R rx ry ax ay e k
  unfold catL at e
  split at e
  · split at e
    · rename_i xs ys hz
      cases e
      obtain ⟨a, vs, rfl, h1, h2⟩ := ax.lst
      obtain ⟨b, ws, rfl, h3, h4⟩ := ay.lst
      refine op_cat pins sh σ H _ _ v u Q I rx ry ⟨_, _, vs, ws, rfl, rfl, h1, h3, by rw [h2.len, h4.len]; exact hz, fun q hq => ?_⟩
      obtain ⟨f1, f2, f3⟩ := fin_lone R hq (h2.append h4)
      exact k _ _ _ f1 f2 f3
    · cases e
  · cases e
theorem op_repF : OpF X (binaryOp .Mult) repL := by
  intro p pins sh σ H O s x y v u dx dy z Q I R rx ry ax ay e k
  unfold repL at e
  split at e
  · split at e
    · rename_i hz
      cases e
      obtain ⟨a, vs, rfl, h1, h2⟩ := ax.lst
      cases ay.int
      refine op_rep pins sh σ H _ _ v u Q I rx ry ⟨_, _, vs, rfl, rfl, h1, hz.1, hz.2.1, by rw [h2.len]; exact hz.2.2, fun q hq => ?_⟩
      obtain ⟨f1, f2, f3⟩ := fin_lone R hq (h2.rep _)
      exact k _ _ _ f1 f2 f3
    · cases e
  · cases e

/-! ### subscripts -/
def ixD : PyData → PyData → Option PyData
  | .list xs, .int i => atI xs i
  | .tuple xs, .int i => atI xs i
  | .str z, .int i => if z.length ≤ sizeLine then (atI z.cps.toList i).map fun c => .str ⟨#[c]⟩ else none
  | .dict ((.bool t, .none) :: ds), k => if keyFits t k then lookD k ds else none
  | _, _ => none
theorem AtL.atI {xs : List V} {ds : List PyData} {i : Int} {d : PyData} (h : AtL K O H xs ds) (e : L2.atI ds i = some d) : ∃ v, L2.atI xs i = some v ∧ At K O H v d := by
  unfold L2.atI at e ⊢
  rw [h.len]
  cases q : ixN ds.length i with
  | none => rw [q] at e; cases e
  | some j =>
    rw [q] at e
    obtain ⟨v, e1, e2⟩ := h.get' (show ds[j]? = some d from e)
    exact ⟨v, e1, e2⟩
def rIxDic : R2 := fun x y H Q => ∃ a v, x = .ref a ∧ DGet H a y (some v) ∧ Q v H
theorem ix_dic (hu : X.A.units + 1 < cLine) : IxR X rIxDic := by
  intro value slice pins sh σ H x y v u Q I rx ry h hs
  obtain ⟨a, w, rfl, g, q⟩ := h
  obtain rfl : v = Value.ref a := rx
  have hT := dict_typeIs I g
  unfold subscriptTail
  refine wpAny_bind ?_
  rw [getitemInPython_of_ne hT.not_modules]
  refine wpAny_bind (wpAny_specialOf hT PySem.F.slot_dict_getitem.lookup ?_)
  have fin : wpAny (model X.prog X.w) X.A (subscripted slice false (.ref a) u) (fun r s₃ => wpAny (model X.prog X.w) X.A (letTemporaryGo value (.ref a) r >>= fun _ => pure r) (EP X pins σ Q) X.xe s₃) X.xe sh := by
    rw [hs]
    exact wpAny_operating (wpAny_mono (d_getItem hu I g ry fun w' s3 I3 rw' => (⟨w, H, I3, rw', q⟩ : EP X pins σ Q w' s3)) (fun r s₃ h₃ => wpAny_bind (wpAny_letTemporaryGo (wpAny_pure h₃))) fun _ _ x => x)
  first
    | exact wpAny_pure (wpAny_bind fin)
    | exact wpAny_bind (wpAny_pure (wpAny_bind fin))
    | exact wpAny_bind fin
theorem de_ix {ta tb : PTL} (hu : X.A.units + 64 < cLine) (ha : DL X ea ta) (hb : DL X eb tb) (hs : PlainIx eb := by exact fun _ _ => rfl) : DE X (.Subscript ea eb pos) (tBin ixD ta tb) := by
  refine ⟨PE.weak (pe_ix ((ix_list.or (ix_tup.or ix_str)).or (ix_dic (hu1 hu))) ha.pe hb.pe hs) fun σ H Q ⟨p, O, s, R, q⟩ => two ha hb R q ?_, mono_bin ha.mono hb.mono⟩
  rintro x y vx vy O' H' s' R' k' a1 a2 ⟨dx, dy, z, e1, e2, e3, q3⟩
  have ax := R'.read a1 e1
  have ay := R'.read a2 e2
  unfold ixD at e3
  split at e3
  · obtain ⟨a, xs, rfl, h1, h2⟩ := ax.lst
    cases ay.int
    obtain ⟨w, f1, f2⟩ := h2.atI e3
    exact .inl (.inl ⟨a, xs, _, w, rfl, rfl, SqL.of h1, f1, q3 w O' H' R' k' f2⟩)
  · obtain ⟨a, xs, rfl, h1, h2⟩ := ax.tup
    cases ay.int
    obtain ⟨w, f1, f2⟩ := h2.atI e3
    exact .inl (.inr (.inl ⟨a, xs, _, w, rfl, rfl, h1.sq, f1, q3 w O' H' R' k' f2⟩))
  · split at e3
    · rename_i hz
      cases ax.str
      cases ay.int
      cases q : L2.atI _ _ with
      | none => rw [q] at e3; cases e3
      | some c =>
        rw [q] at e3
        cases e3
        exact .inl (.inr (.inr ⟨_, _, c, rfl, rfl, hz, q, q3 _ O' H' R' k' (.str _)⟩))
    · cases e3
  · split at e3
    · rename_i f
      obtain ⟨a, o, rfl, g, g1, g2⟩ := ax.dget ay f
      obtain ⟨w, rfl, hw⟩ := g1 _ e3
      exact .inr ⟨a, w, rfl, g, q3 w O' H' R' k' hw⟩
    · cases e3
  · cases e3

/-! ### slices -/
def cutD (xs : List PyData) (lo hi : Option Int) : List PyData := (xs.drop (HT.sIx xs.length 0 lo)).take (HT.sIx xs.length xs.length hi - HT.sIx xs.length 0 lo)
theorem AtL.cut {xs : List V} {ds : List PyData} (h : AtL K O H xs ds) (lo hi : Option Int) : AtL K O H (cutV xs lo hi) (cutD ds lo hi) := by
  unfold cutV cutD
  rw [h.len]
  exact (h.drop _).take _
theorem cutV_whole {xs : List V} {lo hi : Option Int} (h : HT.sIx xs.length 0 lo = 0 ∧ HT.sIx xs.length xs.length hi = xs.length) : cutV xs lo hi = xs := by
  unfold cutV
  rw [h.1, h.2]
  simp
abbrev PTO := PSt → (Option Int → PSt → Prop) → Prop
def liftO (K : PySem.W.Frag) (t : PTO) : TO := fun σ H QV => ∃ p O s, Rl K p O σ H s ∧ t s fun o s' => ∀ O' H', Rl K p O' σ H' s' → Kp O H O' H' → QV o H'
structure DO (X : Cx) (e : Option Expr) (t : PTO) : Prop where
  po : PO X e (liftO X.K t)
  mono : ∀ s Q Q', (∀ d s', Q d s' → Q' d s') → t s Q → t s Q'
theorem PO.weak {X : Cx} {e : Option Expr} {t t' : TO} (h : PO X e t) (w : ∀ σ H Q, t' σ H Q → t σ H Q) : PO X e t' := ⟨fun pins s σ H Q I q => h.run pins s σ H Q I (w _ _ _ q)⟩
@[simp] def tNoP : PTO := fun s Q => Q none s
@[simp] def tPrt (t : PTE) : PTO := fun s Q => t s fun d s' => ∃ i, d = .int i ∧ Q (some i) s'
theorem do_none : DO X none tNoP := ⟨PO.weak po_none fun σ H Q ⟨p, O, s, R, q⟩ => q O H R .refl, fun s Q Q' w q => w _ _ q⟩
theorem do_some {t : PTE} (h : DE X e t) : DO X (some e) (tPrt t) :=
  ⟨PO.weak (po_some h.pe) fun σ H Q ⟨p, O, s, R, q⟩ => ⟨p, O, s, R, h.mono _ _ _ (fun d s' ⟨i, ei, q⟩ v O' H' R' k' a => by
    subst ei
    cases a
    exact ⟨i, rfl, q O' H' R' k'⟩) q⟩, fun s Q Q' w q => h.mono _ _ _ (fun d s' ⟨i, ei, q⟩ => ⟨i, ei, w _ _ q⟩) q⟩
def slD (d : PyData) (lo hi : Option Int) : Option PyData := match d with
  | .list xs => some (.list (cutD xs lo hi))
  | .tuple xs => some (.tuple (cutD xs lo hi))
  | .str z => if z.length ≤ sizeLine then some (.str (cutS z lo hi)) else none
  | _ => none
def slF (d : PyData) (lo hi : Option Int) : Option PyData := match d with
  | .list xs => some (.list (cutD xs lo hi))
  | _ => none
@[simp] def tSlc (f : PyData → Option Int → Option Int → Option PyData) (t : PTL) (tl th : PTO) : PTE := fun s Q => t s fun x s1 => tl s1 fun l s2 => th s2 fun h s3 => ∃ d z, rd s3 x = some d ∧ f d l h = some z ∧ Q z s3
theorem mono_slc {f : PyData → Option Int → Option Int → Option PyData} {t : PTL} {tl th : PTO} {lo hi : Option Expr} (ha : DL X e t) (hl : DO X lo tl) (hh : DO X hi th) : Mono (tSlc f t tl th) := fun s Q Q' w q =>
  ha.mono _ _ _ (fun x s1 q1 => hl.mono _ _ _ (fun l s2 q2 => hh.mono _ _ _ (fun h s3 ⟨d, z, e1, e2, q3⟩ => ⟨d, z, e1, e2, w _ _ q3⟩) q2) q1) q
theorem slc_of {t : PTL} {tl th : PTO} {lo hi : Option Expr} {r : V → Option Int → Option Int → Hp → VK → Prop} {Q : VK} {U : Rv → Option Int → Option Int → PSt → Prop} (ha : DL X e t) (hl : DO X lo tl) (hh : DO X hi th) (R : Rl X.K p O σ H s)
    (q : t s fun x s1 => tl s1 fun l s2 => th s2 fun h s3 => U x l h s3)
    (k : ∀ x l h vx O' H' s', Rl X.K p O' σ H' s' → Kp O H O' H' → RvOk X.K p O' σ H' vx x → U x l h s' → r vx l h H' Q) :
    L2.tSl r (liftL X.K t) (liftO X.K tl) (liftO X.K th) σ H Q :=
  ⟨p, O, s, R, ha.mono _ _ _ (fun x s1 q1 vx O1 H1 R1 k1 a1 => ⟨p, O1, s1, R1, hl.mono _ _ _ (fun l s2 q2 O2 H2 R2 k2 => ⟨p, O2, s2, R2, hh.mono _ _ _ (fun h s3 q3 O3 H3 R3 k3 =>
    k x l h vx O3 H3 s3 R3 ((k1.trans k2).trans k3) (a1.to (k2.trans k3)) q3) q2⟩) q1⟩) q⟩
variable {lo hi : Option Expr} {p2 : Pos}
theorem de_slice {t : PTL} {tl th : PTO} (ha : DL X e t) (hl : DO X lo tl) (hh : DO X hi th) : DE X (.Subscript e (.Slice lo hi none p2) pos) (tSlc slD t tl th) := by
  refine ⟨PE.weak (pe_slice (sl_list.or (sl_tupA.or sl_str)) ha.pe hl.po hh.po) fun σ H Q ⟨p, O, s, R, q⟩ => slc_of ha hl hh R q ?_, mono_slc ha hl hh⟩
  rintro x l h vx O' H' s' R' k' a1 ⟨d, z, e1, e2, q3⟩
  have ax := R'.read a1 e1
  unfold slD at e2
  split at e2
  · cases e2
    obtain ⟨a, xs, rfl, h1, h2⟩ := ax.lst
    refine .inl ⟨a, xs, rfl, SqL.of h1, fun q hq => ?_⟩
    obtain ⟨f1, f2, f3⟩ := fin_lst R' hq (h2.cut l h)
    exact q3 _ _ _ f1 (k'.trans f2) f3
  · cases e2
    obtain ⟨a, xs, rfl, h1, h2⟩ := ax.tup
    refine .inr (.inl ⟨a, xs, rfl, h1.sq, fun w => q3 _ O' H' R' k' ?_, fun w q hq => ?_⟩)
    · have := h2.cut l h
      rw [cutV_whole w] at this
      exact .tup h1 this
    · obtain ⟨f1, f2, f3⟩ := fin_tup R' hq (h2.cut l h)
      exact q3 _ _ _ f1 (k'.trans f2) f3
  · split at e2
    · rename_i hz
      cases e2
      cases ax.str
      exact .inr (.inr ⟨_, rfl, hz, q3 _ O' H' R' k' (.str _)⟩)
    · cases e2
  · cases e2
theorem df_slice {t : PTL} {tl th : PTO} (ha : DL X e t) (hl : DO X lo tl) (hh : DO X hi th) : DF X (.Subscript e (.Slice lo hi none p2) pos) (tSlc slF t tl th) := by
  refine ⟨PE.weak (pe_slice sl_list ha.pe hl.po hh.po) fun σ H Q ⟨p, O, s, R, q⟩ => slc_of ha hl hh R q ?_, mono_slc ha hl hh⟩
  rintro x l h vx O' H' s' R' k' a1 ⟨d, z, e1, e2, q3⟩
  have ax := R'.read a1 e1
  unfold slF at e2
  split at e2
  · cases e2
    obtain ⟨a, xs, rfl, h1, h2⟩ := ax.lst
    refine ⟨a, xs, rfl, SqL.of h1, fun q hq => ?_⟩
    obtain ⟨f1, f2, f3⟩ := fin_lone R' hq (h2.cut l h)
    exact q3 _ _ _ f1 (k'.trans f2) f3
  · cases e2
/-! xs[::-1] of a list -/
def tRv (t : PTL) : PTE := fun s Q => t s fun x s' => ∃ ds, rd s' x = some (.list ds) ∧ Q (.list ds.reverse) s'
theorem df_rev {t : PTL} {k : Nat} {q1 q2 q3 : Pos} (ha : DL X e t) : DF X (.Subscript e (.Slice none none (some (.UnaryOp .USub (.Constant (.int 1) k q1) q2)) q3) pos) (tRv t) :=
  ⟨PE.weak (pe_revL ha.pe) fun σ H Q ⟨p, O, s, R, q⟩ => ⟨p, O, s, R, ha.mono _ _ _ (fun x s' ⟨ds, e, q⟩ v O' H' R' k' a => by
    obtain ⟨b, xs, rfl, h1, h2⟩ := (R'.read a e).lst
    refine ⟨b, xs, rfl, SqL.of h1, fun l hl => ?_⟩
    obtain ⟨f1, f2, f3⟩ := fin_lone R' hl h2.reverse
    exact q _ _ _ f1 (k'.trans f2) f3) q⟩, fun s Q Q' w q => ha.mono _ _ _ (fun x s' ⟨ds, e, q⟩ => ⟨ds, e, w _ _ q⟩) q⟩
end
end PD
end
section
set_option Elab.async false
set_option linter.all false
set_option maxRecDepth 100000
set_option maxHeartbeats 4000000
/-! PD7: calls of built-ins over data. -/
namespace PD
open PySem PySem.Spec PyProof.Rows L2

inductive RvL (K : PySem.W.Frag) (p : Pm) (O : Ow) (σ : L2.St) (H : Hp) : List V → List Rv → Prop
  | nil : RvL K p O σ H [] []
  | cons {v : V} {vs : List V} {r : Rv} {rs : List Rv} : RvOk K p O σ H v r → RvL K p O σ H vs rs → RvL K p O σ H (v :: vs) (r :: rs)
inductive AtEL (K : PySem.W.Frag) (O : Ow) (H : Hp) : List V → List PyData → Prop
  | nil : AtEL K O H [] []
  | cons {v : V} {vs : List V} {r : PyData} {rs : List PyData} : AtE K O H v r → AtEL K O H vs rs → AtEL K O H (v :: vs) (r :: rs)
@[simp] def rds (s : PSt) : List Rv → Option (List PyData)
  | [] => some []
  | r :: rs => (rd s r).bind fun d => (rds s rs).map (d :: ·)
abbrev PTLs := PSt → (List Rv → PSt → Prop) → Prop
def liftLs (K : PySem.W.Frag) (t : PTLs) : TA := fun σ H QV => ∃ p O s, Rl K p O σ H s ∧ t s fun rs s' => ∀ vs O' H', Rl K p O' σ H' s' → Kp O H O' H' → RvL K p O' σ H' vs rs → QV vs H'
structure DLs (X : Cx) (es : List Expr) (t : PTLs) : Prop where
  pa : PA X es (liftLs X.K t)
  mono : ∀ s Q Q', (∀ d s', Q d s' → Q' d s') → t s Q → t s Q'
section
variable {K : PySem.W.Frag} {X : Cx} {p : Pm} {O O' : Ow} {σ : L2.St} {H H' : Hp} {s : PSt} {v : V} {d : PyData} {a : Addr} {e ea eb : Expr} {es : List Expr} {pos : Pos}
theorem RvL.to (k : Kp O H O' H') : ∀ {vs : List V} {rs : List Rv}, RvL K p O σ H vs rs → RvL K p O' σ H' vs rs
  | _, _, .nil => .nil
  | _, _, .cons h t => .cons (h.to k) (RvL.to k t)
theorem Rl.reads (R : Rl K p O σ H s) : ∀ {vs : List V} {rs : List Rv} {ds : List PyData}, RvL K p O σ H vs rs → rds s rs = some ds → AtEL K O H vs ds
  | _, _, _, .nil, e => by cases e; exact .nil
  | _, _, ds, .cons (r := r) (rs := rs) h t, e => by
    unfold rds at e
    cases e1 : rd s r with
    | none => rw [e1] at e; cases e
    | some d =>
      cases e2 : rds s rs with
      | none => rw [e1, e2] at e; cases e
      | some ds' =>
        rw [e1, e2] at e
        cases e
        exact .cons (R.read h e1) (Rl.reads R t e2)
@[simp] def tNlL : PTLs := fun s Q => Q [] s
@[simp] def tCnL (t : PTL) (u : PTLs) : PTLs := fun s Q => t s fun r s1 => u s1 fun rs s2 => Q (r :: rs) s2
theorem dls_nil : DLs X [] tNlL := ⟨PA.weak pa_nil fun σ H Q ⟨p, O, s, R, q⟩ => q [] O H R .refl .nil, fun s Q Q' w q => w _ _ q⟩
theorem dls_cons {t : PTL} {u : PTLs} (h : DL X e t) (k : DLs X es u) (hs : starEach (e :: es) X.env = (false, eval e X.env) :: starEach es X.env := by rfl) : DLs X (e :: es) (tCnL t u) :=
  ⟨PA.weak (pa_cons h.pe k.pa hs) fun σ H Q ⟨p, O, s, R, q⟩ => ⟨p, O, s, R, h.mono _ _ _ (fun d s1 q1 v1 O1 H1 R1 k1 a1 => ⟨p, O1, s1, R1, k.mono _ _ _ (fun ds s2 q2 vs O2 H2 R2 k2 a2 => q2 (v1 :: vs) O2 H2 R2 (k1.trans k2) (.cons (a1.to k2) a2)) q1⟩) q⟩,
    fun s Q Q' w q => h.mono _ _ _ (fun d s1 q1 => k.mono _ _ _ (fun ds s2 => w (d :: ds) s2) q1) q⟩

/-- what a call's value may be: it stands already; it is a new list, a new tuple -/
def RsD (K : PySem.W.Frag) (H : Hp) (z : PyData) (Q : VK) : Prop := ∃ O : Ow, (∀ q, O q → H q ≠ none) ∧ (∀ w, At K O H w z → Q w H) ∧ (∀ q vs ds, H q = none → z = .list ds → AtL K O H vs ds → Q (.ref q) (upd H q (.lst vs))) ∧ (∀ q vs ds, H q = none → z = .tuple ds → AtL K O H vs ds → Q (.ref q) (upd H q (.tup vs)))
/-- .. for arguments: the same O -/
def CallD (X : Cx) (f : Value) (g : List PyData → Option PyData) : Prop :=
  CallR X f fun xs H Q => ∃ (O : Ow) (ds : List PyData) (z : PyData), AtEL X.K O H xs ds ∧ g ds = some z ∧ (∀ w, At X.K O H w z → Q w H) ∧ (∀ q vs ls, H q = none → z = .list ls → AtL X.K O H vs ls → Q (.ref q) (upd H q (.lst vs))) ∧ (∀ q vs ls, H q = none → z = .tuple ls → AtL X.K O H vs ls → Q (.ref q) (upd H q (.tup vs)))
/-- .. always a new list -/
def CallF (X : Cx) (f : Value) (g : List PyData → Option (List PyData)) : Prop :=
  CallR X f fun xs H Q => ∃ (O : Ow) (ds ls : List PyData), AtEL X.K O H xs ds ∧ g ds = some ls ∧ ∀ q vs, H q = none → AtL X.K O H vs ls → Q (.ref q) (upd H q (.lst vs))
@[simp] def tCl (g : List PyData → Option PyData) (t : PTLs) : PTE := fun s Q => t s fun rs s' => ∃ ds z, rds s' rs = some ds ∧ g ds = some z ∧ Q z s'
@[simp] def tClF (g : List PyData → Option (List PyData)) (t : PTLs) : PTE := fun s Q => t s fun rs s' => ∃ ds z, rds s' rs = some ds ∧ g ds = some z ∧ Q (.list z) s'
theorem mono_cl {g : List PyData → Option PyData} {t : PTLs} (h : DLs X es t) : Mono (tCl g t) := fun s Q Q' w q => h.mono _ _ _ (fun rs s' ⟨ds, z, e1, e2, q⟩ => ⟨ds, z, e1, e2, w _ _ q⟩) q
theorem mono_clF {g : List PyData → Option (List PyData)} {t : PTLs} (h : DLs X es t) : Mono (tClF g t) := fun s Q Q' w q => h.mono _ _ _ (fun rs s' ⟨ds, z, e1, e2, q⟩ => ⟨ds, z, e1, e2, w _ _ q⟩) q
section
variable {x : Str} {p' : Pos} {g : List PyData → Option PyData} {gF : List PyData → Option (List PyData)} {t : PTLs} {id T : String}
theorem cl_read {r : List V → Hp → VK → Prop} (h : DLs X es t) (w : ∀ (p : Pm) (O : Ow) (σ : L2.St) (s' : PSt) H' Q vs ds z, Rl X.K p O σ H' s' → AtEL X.K O H' vs ds → g ds = some z → (∀ v O2 H2, Rl X.K p O2 σ H2 s' → Kp O H' O2 H2 → At X.K O2 H2 v z → Q v H2) → r vs H' Q) :
    ∀ (σ : L2.St) (H : Hp) (Q : VK), lift X.K (tCl g t) σ H Q → tCB r (liftLs X.K t) σ H Q := fun σ H Q ⟨p, O, s, R, q⟩ => ⟨p, O, s, R, h.mono _ _ _ (fun rs s' ⟨ds, z, e1, e2, q⟩ vs O' H' R' k' a =>
      w p O' σ s' H' Q vs ds z R' (R'.reads a e1) e2 fun v O2 H2 R2 k2 a2 => q v O2 H2 R2 (k'.trans k2) a2) q⟩
theorem clF_read {r : List V → Hp → VK → Prop} (h : DLs X es t) (w : ∀ (p : Pm) (O : Ow) (σ : L2.St) (s' : PSt) H' Q vs ds z, Rl X.K p O σ H' s' → AtEL X.K O H' vs ds → gF ds = some z → (∀ a O2 H2, Rl X.K p O2 σ H2 s' → Kp O H' O2 H2 → Lone X.K p O2 σ H2 s' a (.list z) → Q (.ref a) H2) → r vs H' Q) :
    ∀ (σ : L2.St) (H : Hp) (Q : VK), liftF X.K (tClF gF t) σ H Q → tCB r (liftLs X.K t) σ H Q := fun σ H Q ⟨p, O, s, R, q⟩ => ⟨p, O, s, R, h.mono _ _ _ (fun rs s' ⟨ds, z, e1, e2, q⟩ vs O' H' R' k' a =>
      w p O' σ s' H' Q vs ds z R' (R'.reads a e1) e2 fun v O2 H2 R2 k2 a2 => q v O2 H2 R2 (k'.trans k2) a2) q⟩
theorem callD_ok {p : Pm} {O : Ow} {σ : L2.St} {s' : PSt} {H' : Hp} {Q : VK} {vs : List V} {ds : List PyData} {z : PyData} (R : Rl X.K p O σ H' s') (a : AtEL X.K O H' vs ds) (e : g ds = some z) (k : ∀ v O2 H2, Rl X.K p O2 σ H2 s' → Kp O H' O2 H2 → At X.K O2 H2 v z → Q v H2) :
    ∃ (O : Ow) (ds : List PyData) (z : PyData), AtEL X.K O H' vs ds ∧ g ds = some z ∧ (∀ w, At X.K O H' w z → Q w H') ∧ (∀ q vs ls, H' q = none → z = .list ls → AtL X.K O H' vs ls → Q (.ref q) (upd H' q (.lst vs))) ∧ (∀ q vs ls, H' q = none → z = .tuple ls → AtL X.K O H' vs ls → Q (.ref q) (upd H' q (.tup vs))) := by
  refine ⟨O, ds, z, a, e, fun w aw => k w O H' R .refl aw, fun q vs ls hq ez l => ?_, fun q vs ls hq ez l => ?_⟩
  · subst ez
    obtain ⟨f1, f2, f3⟩ := fin_lst R hq l
    exact k _ _ _ f1 f2 f3
  · subst ez
    obtain ⟨f1, f2, f3⟩ := fin_tup R hq l
    exact k _ _ _ f1 f2 f3
theorem de_callB (hc : CallD X (.builtin id) g) (hg : Gl X x) (hm : X.mg x = none) (hv : bootBuiltins x = some (.builtin id)) (ha : DLs X (e :: es) t) (hn : x ≠ "__name__" := by decide) (hdb : (x == ("__debug__" : Str)) = false := by decide)
    (he : starEach (e :: es) X.env = (false, eval e X.env) :: starEach es X.env := by rfl) (hpl : (backTo pos (starEach es X.env)).any (·.1) = false := by rfl) : DE X (.Call (.Name x p') (e :: es) [] pos) (tCl g t) :=
  ⟨PE.weak (pe_callB hc hg hm hv ha.pa hn hdb he hpl) (cl_read ha fun p O σ s' H' Q vs ds z R a e k => callD_ok R a e k), mono_cl ha⟩
theorem de_callTy (hc : CallD X (.type T) g) (hg : Gl X x) (hm : X.mg x = none) (hv : bootBuiltins x = some (.type T)) (ha : DLs X (e :: es) t) (hn : x ≠ "__name__" := by decide) (hdb : (x == ("__debug__" : Str)) = false := by decide)
    (he : starEach (e :: es) X.env = (false, eval e X.env) :: starEach es X.env := by rfl) (hpl : (backTo pos (starEach es X.env)).any (·.1) = false := by rfl) : DE X (.Call (.Name x p') (e :: es) [] pos) (tCl g t) :=
  ⟨PE.weak (pe_callTy hc hg hm hv ha.pa hn hdb he hpl) (cl_read ha fun p O σ s' H' Q vs ds z R a e k => callD_ok R a e k), mono_cl ha⟩
theorem callF_ok {p : Pm} {O : Ow} {σ : L2.St} {s' : PSt} {H' : Hp} {Q : VK} {vs : List V} {ds z : List PyData} (R : Rl X.K p O σ H' s') (a : AtEL X.K O H' vs ds) (e : gF ds = some z) (k : ∀ a O2 H2, Rl X.K p O2 σ H2 s' → Kp O H' O2 H2 → Lone X.K p O2 σ H2 s' a (.list z) → Q (.ref a) H2) :
    ∃ (O : Ow) (ds ls : List PyData), AtEL X.K O H' vs ds ∧ gF ds = some ls ∧ ∀ q vs, H' q = none → AtL X.K O H' vs ls → Q (.ref q) (upd H' q (.lst vs)) := by
  refine ⟨O, ds, z, a, e, fun q vs hq l => ?_⟩
  obtain ⟨f1, f2, f3⟩ := fin_lone R hq l
  exact k _ _ _ f1 f2 f3
theorem df_callB (hc : CallF X (.builtin id) gF) (hg : Gl X x) (hm : X.mg x = none) (hv : bootBuiltins x = some (.builtin id)) (ha : DLs X (e :: es) t) (hn : x ≠ "__name__" := by decide) (hdb : (x == ("__debug__" : Str)) = false := by decide)
    (he : starEach (e :: es) X.env = (false, eval e X.env) :: starEach es X.env := by rfl) (hpl : (backTo pos (starEach es X.env)).any (·.1) = false := by rfl) : DF X (.Call (.Name x p') (e :: es) [] pos) (tClF gF t) :=
  ⟨PE.weak (pe_callB hc hg hm hv ha.pa hn hdb he hpl) (clF_read ha fun p O σ s' H' Q vs ds z R a e k => callF_ok R a e k), mono_clF ha⟩
theorem df_callTy (hc : CallF X (.type T) gF) (hg : Gl X x) (hm : X.mg x = none) (hv : bootBuiltins x = some (.type T)) (ha : DLs X (e :: es) t) (hn : x ≠ "__name__" := by decide) (hdb : (x == ("__debug__" : Str)) = false := by decide)
    (he : starEach (e :: es) X.env = (false, eval e X.env) :: starEach es X.env := by rfl) (hpl : (backTo pos (starEach es X.env)).any (·.1) = false := by rfl) : DF X (.Call (.Name x p') (e :: es) [] pos) (tClF gF t) :=
  ⟨PE.weak (pe_callTy hc hg hm hv ha.pa hn hdb he hpl) (clF_read ha fun p O σ s' H' Q vs ds z R a e k => callF_ok R a e k), mono_clF ha⟩
end

/-! ### the built-ins -/
theorem AtEL.one {vs : List V} (h : AtEL K O H vs [d]) : ∃ v, vs = [v] ∧ AtE K O H v d := by
  cases h with
  | cons h1 h2 => cases h2; exact ⟨_, rfl, h1⟩
theorem AtEL.two {d' : PyData} {vs : List V} (h : AtEL K O H vs [d, d']) : ∃ v w, vs = [v, w] ∧ AtE K O H v d ∧ AtE K O H w d' := by
  cases h with
  | cons h1 h2 => cases h2 with
    | cons h3 h4 => cases h4; exact ⟨_, _, rfl, h1, h3⟩
def lenD : List PyData → Option PyData
  | [.list xs] => some (.int xs.length)
  | [.tuple xs] => some (.int xs.length)
  | [.str z] => if z.length ≤ sizeLine then some (.int z.length) else none
  | [.dict ((.bool false, .none) :: ds)] => some (.int ds.length)
  | _ => none
theorem AtK.len {vs : List (Key × V)} {ds : List (PyData × PyData)} : AtK K O H vs ds → vs.length = ds.length := by
  intro h
  induction vs generalizing ds with
  | nil => cases h; rfl
  | cons v vs ih => cases h with
    | cons h1 h2 => rw [List.length_cons, List.length_cons, ih h2]
theorem call_lenP : CallD X (.builtin "len") lenD := by
  intro pins sh σ H xs us Q I rv h
  obtain ⟨O, ds, z, a, e, k, _, _⟩ := h
  unfold lenD at e
  split at e
  · cases e
    obtain ⟨v, rfl, av⟩ := a.one
    obtain ⟨b, ys, rfl, h1, h2⟩ := av.lst
    exact call_len_seq pins sh σ H _ us Q I rv ⟨b, ys, rfl, .inl (SqL.of h1), by rw [h2.len]; exact k _ (.int _)⟩
  · cases e
    obtain ⟨v, rfl, av⟩ := a.one
    obtain ⟨b, ys, rfl, h1, h2⟩ := av.tup
    exact call_len_seq pins sh σ H _ us Q I rv ⟨b, ys, rfl, .inr h1.sq, by rw [h2.len]; exact k _ (.int _)⟩
  · split at e
    · rename_i hz
      cases e
      obtain ⟨v, rfl, av⟩ := a.one
      cases av.str
      exact call_len_str pins sh σ H _ us Q I rv ⟨_, rfl, hz, k _ (.int _)⟩
    · cases e
  · rename_i ds
    cases e
    obtain ⟨v, rfl, av⟩ := a.one
    obtain ⟨b, rfl, ⟨_, kvs, h1, h2⟩ | ⟨h0, _⟩⟩ := AtE.dic (t := false) av
    · rw [← h2.len] at k
      exact call_lenD pins sh σ H _ us Q I rv ⟨b, kvs, rfl, h1, k _ (.int _)⟩
    · cases h0
  · cases e
/-- isinstance(x, T): the type's name told -/
def isaD (f : PyData → Bool) : List PyData → Option PyData
  | [d] => if d.plain then some (.bool (f d)) else none
  | _ => none
end
end PD
end
section
set_option Elab.async false
set_option linter.all false
set_option maxRecDepth 100000
set_option maxHeartbeats 4000000
/-! PD8: more built-ins over data. -/
namespace PD
open PySem PySem.Spec PyProof.Rows L2

section
variable {K : PySem.W.Frag} {X : Cx} {p : Pm} {O O' : Ow} {σ : L2.St} {H H' : Hp} {s : PSt} {v : V} {d : PyData} {a : Addr} {e ea eb : Expr} {es : List Expr} {pos : Pos}
/-! ### isinstance(x, T) -/
@[simp] def tIsa (f : PyData → Bool) (t : PTL) : PTE := fun s Q => t s fun r s' => ∃ d, rd s' r = some d ∧ d.plain = true ∧ Q (.bool (f d)) s'
/-- the rule of a type -/
def IsaR (X : Cx) (T : String) (f : PyData → Bool) : Prop := ∀ (sh : Shared) (u : Value) (d : PyData) (as : List Addr) (Q : Value → Shared → Prop), Reads sh.heap u d as → (∀ tk, Q (.bool (f d)) { sh with toks := tk }) →
  wpAny (model X.prog X.w) X.A (call (.builtin "isinstance") [u, .type T]) Q X.xe sh
theorem isa_int : IsaR X "int" PyData.isInt := fun sh u d as Q r h => PySem.W.isinstance_int_data r fun tk _ => h tk
theorem isa_bool : IsaR X "bool" PyData.isBool := fun sh u d as Q r h => PySem.W.isinstance_bool_data r fun tk _ => h tk
theorem isa_str : IsaR X "str" PyData.isStr := fun sh u d as Q r h => PySem.W.isinstance_str_data r fun tk _ => h tk
theorem isa_tuple : IsaR X "tuple" PyData.isTuple := fun sh u d as Q r h => PySem.W.isinstance_tuple_data r fun tk _ => h tk
theorem isa_list : IsaR X "list" PyData.isList := fun sh u d as Q r h => PySem.W.isinstance_list_data r fun tk _ => h tk
theorem isa_dict : IsaR X "dict" PyData.isDict := fun sh u d as Q r h => PySem.W.isinstance_dict_data r fun tk _ => h tk
def rIsaD (K : PySem.W.Frag) (T : String) (f : PyData → Bool) : List V → Hp → VK → Prop := fun xs H Q => ∃ (O : Ow) (x : V) (d : PyData), xs = [x, .ty T] ∧ AtE K O H x d ∧ d.plain = true ∧ Q (.bl (f d)) H
theorem call_isaD {T : String} {f : PyData → Bool} (hr : IsaR X T f) : CallR X (.builtin "isinstance") (rIsaD X.K T f) := by
  intro pins sh σ H xs us Q I rv h
  obtain ⟨O, x, d, rfl, a, pl, q⟩ := h
  cases rv with
  | cons r1 r2 => cases r2 with
    | cons r2 r3 =>
      cases r3
      obtain rfl := (show _ = Value.type T from r2)
      obtain ⟨as, r⟩ := a.rds I pl r1
      exact hr sh _ d as _ r fun tk => ⟨.bl _, H, I.tok tk, rfl, q⟩
theorem de_isa {T : String} {x : Str} {p1 p2 : Pos} {f : PyData → Bool} {t : PTL} {y : Str} (hr : IsaR X T f) (h : DL X e t) (hg : Gl X x) (hm : X.mg x = none) (hv : bootBuiltins x = some (.builtin "isinstance")) (hgT : Gl X y) (hmT : X.mg y = none) (hvT : bootBuiltins y = some (.type T))
    (hn : x ≠ "__name__" := by decide) (hdb : (x == ("__debug__" : Str)) = false := by decide) (hn2 : y ≠ "__name__" := by decide) (hdb2 : (y == ("__debug__" : Str)) = false := by decide) (he : starEach [e, .Name y p2] X.env = (false, eval e X.env) :: starEach [.Name y p2] X.env := by rfl) : DE X (.Call (.Name x p1) [e, .Name y p2] [] pos) (tIsa f t) := by
  refine ⟨PE.weak (pe_callB (call_isaD hr) hg hm hv (pa_cons h.pe (pa_cons (pe_bltn hgT hmT hvT (v := .ty T) rfl hn2 hdb2) pa_nil) he) hn hdb he) fun σ H Q ⟨p, O, s, R, q⟩ => ⟨p, O, s, R, h.mono _ _ _ (fun r s' ⟨d, e1, e2, q⟩ v O' H' R' k' a => ?_) q⟩, fun s Q Q' w q => h.mono _ _ _ (fun r s' ⟨d, e1, e2, q⟩ => ⟨d, e1, e2, w _ _ q⟩) q⟩
  exact ⟨O', v, d, rfl, R'.read a e1, e2, q _ O' H' R' k' (.bl _)⟩

/-! ### all, any -/
def boolsOf : List PyData → Option (List Bool)
  | [] => some []
  | .bool b :: r => (boolsOf r).map (b :: ·)
  | _ :: _ => none
theorem AtL.bools : ∀ {ds : List PyData} {vs : List V} {bs : List Bool}, AtL K O H vs ds → boolsOf ds = some bs → vs = bs.map V.bl
  | [], _, _, h, e => by cases h; cases e; rfl
  | d :: ds, _, bs, h, e => by
    cases h with
    | cons h1 h2 =>
      cases d with
      | bool b =>
        cases h1
        unfold boolsOf at e
        cases e2 : boolsOf ds with
        | none => rw [e2] at e; cases e
        | some bs' => rw [e2] at e; cases e; rw [AtL.bools h2 e2]; rfl
      | _ => cases e
def allD : List PyData → Option PyData
  | [.list ds] => (boolsOf ds).map fun bs => .bool (bs.all id)
  | _ => none
def anyD : List PyData → Option PyData
  | [.list ds] => (boolsOf ds).map fun bs => .bool (bs.any id)
  | _ => none
theorem call_allP (hc : X.calm = true) : CallD X (.builtin "all") allD := by
  intro pins sh σ H xs us Q I rv h
  obtain ⟨O, ds, z, a, e, k, _, _⟩ := h
  unfold allD at e
  split at e
  · obtain ⟨v, rfl, av⟩ := a.one
    obtain ⟨b, ys, rfl, h1, h2⟩ := av.lst
    cases eb : boolsOf _ with
    | none => rw [eb] at e; cases e
    | some bs =>
      rw [eb] at e
      cases e
      cases h2.bools eb
      exact cr_all hc pins sh σ H _ us Q I rv ⟨b, bs, rfl, SqL.of h1, k _ (.bl _)⟩
  · cases e
theorem call_anyP (hc : X.calm = true) : CallD X (.builtin "any") anyD := by
  intro pins sh σ H xs us Q I rv h
  obtain ⟨O, ds, z, a, e, k, _, _⟩ := h
  unfold anyD at e
  split at e
  · obtain ⟨v, rfl, av⟩ := a.one
    obtain ⟨b, ys, rfl, h1, h2⟩ := av.lst
    cases eb : boolsOf _ with
    | none => rw [eb] at e; cases e
    | some bs =>
      rw [eb] at e
      cases e
      cases h2.bools eb
      exact cr_any hc pins sh σ H _ us Q I rv ⟨b, bs, rfl, SqL.of h1, k _ (.bl _)⟩
  · cases e
/-! ### sum -/
def intsOf : List PyData → Option (List Int)
  | [] => some []
  | .int b :: r => (intsOf r).map (b :: ·)
  | _ :: _ => none
theorem AtL.ints : ∀ {ds : List PyData} {vs : List V} {bs : List Int}, AtL K O H vs ds → intsOf ds = some bs → vs = bs.map V.int
  | [], _, _, h, e => by cases h; cases e; rfl
  | d :: ds, _, bs, h, e => by
    cases h with
    | cons h1 h2 =>
      cases d with
      | int b =>
        cases h1
        unfold intsOf at e
        cases e2 : intsOf ds with
        | none => rw [e2] at e; cases e
        | some bs' => rw [e2] at e; cases e; rw [AtL.ints h2 e2]; rfl
      | _ => cases e
def sumD : List PyData → Option PyData
  | [.list ds] => (intsOf ds).map fun bs => .int bs.sum
  | _ => none
theorem call_sumP (hc : X.calm = true) : CallD X (.builtin "sum") sumD := by
  intro pins sh σ H xs us Q I rv h
  obtain ⟨O, ds, z, a, e, k, _, _⟩ := h
  unfold sumD at e
  split at e
  · obtain ⟨v, rfl, av⟩ := a.one
    obtain ⟨b, ys, rfl, h1, h2⟩ := av.lst
    cases eb : intsOf _ with
    | none => rw [eb] at e; cases e
    | some bs =>
      rw [eb] at e
      cases e
      cases h2.ints eb
      exact cr_sum hc pins sh σ H _ us Q I rv ⟨b, bs, rfl, SqL.of h1, k _ (.int _)⟩
  · cases e
/-! ### abs, int, bool -/
def absD : List PyData → Option PyData
  | [.int i] => some (.int (if i < 0 then -i else i))
  | _ => none
theorem call_absP : CallD X (.builtin "abs") absD := by
  intro pins sh σ H xs us Q I rv h
  obtain ⟨O, ds, z, a, e, k, _, _⟩ := h
  unfold absD at e
  split at e
  · cases e
    obtain ⟨v, rfl, av⟩ := a.one
    cases av.int
    exact call_abs pins sh σ H _ us Q I rv ⟨_, rfl, k _ (.int _)⟩
  · cases e
def intD : List PyData → Option PyData
  | [.int i] => some (.int i)
  | [.bool b] => some (.int (if b then 1 else 0))
  | _ => none
theorem call_intP : CallD X (.type "int") intD := by
  intro pins sh σ H xs us Q I rv h
  obtain ⟨O, ds, z, a, e, k, _, _⟩ := h
  unfold intD at e
  split at e
  · cases e
    obtain ⟨v, rfl, av⟩ := a.one
    cases av.int
    exact call_int1 pins sh σ H _ us Q I rv (.inl ⟨_, rfl, k _ (.int _)⟩)
  · cases e
    obtain ⟨v, rfl, av⟩ := a.one
    cases av.bl
    exact call_int1 pins sh σ H _ us Q I rv (.inr ⟨_, rfl, k _ (.int _)⟩)
  · cases e
/-! ### list(x), tuple(x) -/
def listD : List PyData → Option (List PyData)
  | [.list ds] => some ds
  | [.tuple ds] => some ds
  | _ => none
theorem call_listP : CallF X (.type "list") listD := by
  intro pins sh σ H xs us Q I rv h
  obtain ⟨O, ds, z, a, e, k⟩ := h
  unfold listD at e
  split at e
  · cases e
    obtain ⟨v, rfl, av⟩ := a.one
    obtain ⟨b, ys, rfl, h1, h2⟩ := av.lst
    exact call_list_of pins sh σ H _ us Q I rv ⟨b, ys, rfl, .inl (SqL.of h1), fun l hl => k l ys hl h2⟩
  · cases e
    obtain ⟨v, rfl, av⟩ := a.one
    obtain ⟨b, ys, rfl, h1, h2⟩ := av.tup
    exact call_list_of pins sh σ H _ us Q I rv ⟨b, ys, rfl, .inr h1.sq, fun l hl => k l ys hl h2⟩
  · cases e
def tupleD : List PyData → Option PyData
  | [.list ds] => some (.tuple ds)
  | [.tuple ds] => some (.tuple ds)
  | _ => none
theorem call_tupleP : CallD X (.type "tuple") tupleD := by
  intro pins sh σ H xs us Q I rv h
  obtain ⟨O, ds, z, a, e, k, _, kt⟩ := h
  unfold tupleD at e
  split at e
  · cases e
    obtain ⟨v, rfl, av⟩ := a.one
    obtain ⟨b, ys, rfl, h1, h2⟩ := av.lst
    exact call_tuple_of pins sh σ H _ us Q I rv ⟨b, ys, rfl, .inl ⟨SqL.of h1, fun l hl => kt l ys _ hl rfl h2⟩⟩
  · cases e
    obtain ⟨v, rfl, av⟩ := a.one
    obtain ⟨b, ys, rfl, h1, h2⟩ := av.tup
    exact call_tuple_of pins sh σ H _ us Q I rv ⟨b, ys, rfl, .inr ⟨h1.sq, k _ (.tup h1 h2)⟩⟩
  · cases e

/-! ### min, max of alike items -/
def okMin : List PyData → Bool
  | [] => false
  | ds => PyData.plainAll ds && ds.all (fun x => ds.all fun y => PySem.W.alike x y) && ds.all (fun x => !(isNone x)) && decide (PyData.depthAll ds ≤ 60)
theorem okMin_of {x : PyData} {xs : List PyData} (h : okMin (x :: xs) = true) : PyData.plainAll (x :: xs) = true ∧ PySem.W.AlikeAll (x :: xs) ∧ PyData.depthAll (x :: xs) ≤ 60 := by
  unfold okMin at h
  simp only [Bool.and_eq_true, decide_eq_true_eq] at h
  obtain ⟨⟨⟨h1, h2⟩, h3⟩, h4⟩ := h
  refine ⟨h1, ⟨fun a ha b hb => ?_, fun a ha e => ?_⟩, h4⟩
  · exact List.all_eq_true.mp (List.all_eq_true.mp h2 a ha) b hb
  · have := List.all_eq_true.mp h3 a ha
    rw [e] at this
    exact Bool.false_ne_true this
def minOfD : List PyData → Option PyData
  | [.list (x :: xs)] => if okMin (x :: xs) then some (PySem.W.minD x xs) else none
  | [.tuple (x :: xs)] => if okMin (x :: xs) then some (PySem.W.minD x xs) else none
  | _ => none
def maxOfD : List PyData → Option PyData
  | [.list (x :: xs)] => if okMin (x :: xs) then some (PySem.W.maxD x xs) else none
  | [.tuple (x :: xs)] => if okMin (x :: xs) then some (PySem.W.maxD x xs) else none
  | _ => none
theorem plain_mem : ∀ {ds : List PyData} {d : PyData}, PyData.plainAll ds = true → d ∈ ds → d.plain = true
  | [], _, _, h => by cases h
  | x :: xs, d, h, hd => by
    have h' : x.plain = true ∧ PyData.plainAll xs = true := by simpa [PyData.plainAll] using h
    rcases List.mem_cons.mp hd with rfl | hd
    · exact h'.1
    · exact plain_mem h'.2 hd
/-- the item that a place of the values holds -/
theorem best_at {pins : List (Addr × Obj)} {sh : Shared} {ys : List V} {its : List Value} {ds : List PyData} {i : Nat} {w : Value} {z : PyData} {bs : List Addr} {h' : Heap} (I : Inv X pins σ H sh) (rv : Vals ys its) (h2 : AtL X.K O H ys ds) (pl : PyData.plainAll ds = true)
    (hi : its.toArray[i]? = some w) (r : Reads h' w z bs) (k : ∀ b o, sh.heap.get? b = some o → h'.get? b = some o) : ∃ y, RelV y w ∧ At X.K O H y z := by
  have hi : its[i]? = some w := by simpa using hi
  cases ey : ys[i]? with
  | none => rw [rv.none_of ey] at hi; cases hi
  | some y =>
    obtain ⟨w', e1, e2⟩ := rv.get ey
    rw [hi] at e1; cases e1
    obtain ⟨d, ed, ad⟩ := h2.get ey
    have hp := plain_mem pl (List.mem_of_getElem? ed)
    obtain ⟨as, rd'⟩ := At.rds I ad hp e2
    have := SeqAt.plain_unique d z w _ _ hp (PyProof.Rows.Reads.keeps k rd') r
    subst this
    exact ⟨y, e2, ad⟩
theorem call_minP (hc : X.calm = true) (hu : X.A.units + 64 < cLine) : CallD X (.builtin "min") minOfD := by
  intro pins sh σ H xs us Q I rv h
  obtain ⟨O, ds, z, a, e, k, _, _⟩ := h
  have go : ∀ {h' : Heap} {tk : Nat} {y : V} {w : Value}, (∀ b o, sh.heap.get? b = some o → h'.get? b = some o) → RelV y w → At X.K O H y z → EP X pins σ Q w { sh with heap := h', toks := tk } := fun {h' tk y w} hk r1 r2 => ⟨y, H, I.kept hk, r1, k y r2⟩
  unfold minOfD at e
  split at e
  · split at e
    · rename_i ok
      cases e
      obtain ⟨p1, p2, p3⟩ := okMin_of ok
      obtain ⟨v, rfl, av⟩ := a.one
      obtain ⟨b, ys, rfl, h1, h2⟩ := av.lst
      obtain ⟨u, rfl, ru⟩ := rv.one
      cases ru
      obtain ⟨its, r, hl, hz⟩ := I.list (SqL.of h1)
      obtain ⟨as, rs⟩ := AtL.reads I _ _ _ p1 h2 r
      refine PySem.W.min_list_data (I.ok.hd hc) hl.isList (by simpa using rs) p2 (min61 hu p3) fun i w h' tk bs hi r' hk => ?_
      obtain ⟨y, r1, r2⟩ := best_at I r h2 p1 hi r' hk
      exact go hk r1 r2
    · cases e
  · split at e
    · rename_i ok
      cases e
      obtain ⟨p1, p2, p3⟩ := okMin_of ok
      obtain ⟨v, rfl, av⟩ := a.one
      obtain ⟨b, ys, rfl, h1, h2⟩ := av.tup
      obtain ⟨u, rfl, ru⟩ := rv.one
      cases ru
      obtain ⟨its, r, hl, hz⟩ := I.tuple h1.sq
      obtain ⟨as, rs⟩ := AtL.reads I _ _ _ p1 h2 r
      refine PySem.W.min_tuple_data (I.ok.hd hc) hl (by simpa using rs) p2 (min61 hu p3) fun i w h' tk bs hi r' hk => ?_
      obtain ⟨y, r1, r2⟩ := best_at I r h2 p1 hi r' hk
      exact go hk r1 r2
    · cases e
  · cases e
theorem call_maxP (hc : X.calm = true) (hu : X.A.units + 64 < cLine) : CallD X (.builtin "max") maxOfD := by
  intro pins sh σ H xs us Q I rv h
  obtain ⟨O, ds, z, a, e, k, _, _⟩ := h
  have go : ∀ {h' : Heap} {tk : Nat} {y : V} {w : Value}, (∀ b o, sh.heap.get? b = some o → h'.get? b = some o) → RelV y w → At X.K O H y z → EP X pins σ Q w { sh with heap := h', toks := tk } := fun {h' tk y w} hk r1 r2 => ⟨y, H, I.kept hk, r1, k y r2⟩
  unfold maxOfD at e
  split at e
  · split at e
    · rename_i ok
      cases e
      obtain ⟨p1, p2, p3⟩ := okMin_of ok
      obtain ⟨v, rfl, av⟩ := a.one
      obtain ⟨b, ys, rfl, h1, h2⟩ := av.lst
      obtain ⟨u, rfl, ru⟩ := rv.one
      cases ru
      obtain ⟨its, r, hl, hz⟩ := I.list (SqL.of h1)
      obtain ⟨as, rs⟩ := AtL.reads I _ _ _ p1 h2 r
      refine PySem.W.max_list_data (I.ok.hd hc) hl.isList (by simpa using rs) p2 (min61 hu p3) fun i w h' tk bs hi r' hk => ?_
      obtain ⟨y, r1, r2⟩ := best_at I r h2 p1 hi r' hk
      exact go hk r1 r2
    · cases e
  · split at e
    · rename_i ok
      cases e
      obtain ⟨p1, p2, p3⟩ := okMin_of ok
      obtain ⟨v, rfl, av⟩ := a.one
      obtain ⟨b, ys, rfl, h1, h2⟩ := av.tup
      obtain ⟨u, rfl, ru⟩ := rv.one
      cases ru
      obtain ⟨its, r, hl, hz⟩ := I.tuple h1.sq
      obtain ⟨as, rs⟩ := AtL.reads I _ _ _ p1 h2 r
      refine PySem.W.max_tuple_data (I.ok.hd hc) hl (by simpa using rs) p2 (min61 hu p3) fun i w h' tk bs hi r' hk => ?_
      obtain ⟨y, r1, r2⟩ := best_at I r h2 p1 hi r' hk
      exact go hk r1 r2
    · cases e
  · cases e

/-! ### sorted -/
def nonTup : PyData → Bool
  | .none => false
  | .tuple _ => false
  | _ => true
def someTup : PyData → Bool
  | .tuple (_ :: _) => true
  | _ => false
def okSort (ds : List PyData) : Bool := PyData.plainAll ds && ds.all (fun x => ds.all fun y => PySem.W.alike x y) && (ds.all someTup || ds.all nonTup) && ds.all (fun d => decide (d.depth ≤ 60))
def sortD (ds : List PyData) : List PyData := ds.mergeSort (PySem.W.dataLe false id)
def sortedD : List PyData → Option (List PyData)
  | [.list ds] => if okSort ds then some (sortD ds) else none
  | _ => none
theorem okSort_of {ds : List PyData} (h : okSort ds = true) : PyData.plainAll ds = true ∧ PySem.W.AllAlike ds ∧ PySem.W.Sortable ds ∧ ∀ d ∈ ds, d.depth ≤ 60 := by
  unfold okSort at h
  simp only [Bool.and_eq_true, Bool.or_eq_true] at h
  obtain ⟨⟨⟨h1, h2⟩, h3⟩, h4⟩ := h
  refine ⟨h1, fun a ha b hb => List.all_eq_true.mp (List.all_eq_true.mp h2 a ha) b hb, h3.imp (fun h d hd => ?_) (fun h d hd => ?_), fun d hd => of_decide_eq_true (List.all_eq_true.mp h4 d hd)⟩
  · have := List.all_eq_true.mp h d hd
    unfold someTup at this
    split at this
    · exact ⟨_, _, rfl⟩
    · cases this
  · have := List.all_eq_true.mp h d hd
    refine ⟨fun e => ?_, fun xs e => ?_⟩ <;> (rw [e] at this; exact Bool.false_ne_true this)
theorem vals_zip : ∀ {ys : List V} {its : List Value} {ds : List PyData}, Vals ys its → ys.length = ds.length → PySem.W.EachIs (fun u (b : V × PyData) => RelV b.1 u) its (ys.zip ds)
  | _, _, [], .nil, _ => .nil
  | _, _, d :: ds, .cons r t, e => .cons r (vals_zip t (by simpa using e))
  | _, _, d :: ds, .nil, e => by cases e
  | _, _, [], .cons _ _, e => by cases e
theorem each_vals : ∀ {its : List Value} {bs : List (V × PyData)}, PySem.W.EachIs (fun u (b : V × PyData) => RelV b.1 u) its bs → Vals (bs.map (·.1)) its
  | _, _, .nil => .nil
  | _, _, .cons r t => .cons r (each_vals t)
theorem each_and {α β : Type} {R S : α → β → Prop} : ∀ {as : List α} {bs : List β}, PySem.W.EachIs R as bs → (∀ a b, b ∈ bs → R a b → S a b) → PySem.W.EachIs S as bs
  | _, _, .nil, _ => .nil
  | _, _, .cons r t, h => .cons (h _ _ List.mem_cons_self r) (each_and t fun a b hb => h a b (List.mem_cons_of_mem _ hb))
theorem AtL.zipped : ∀ {ys : List V} {ds : List PyData}, AtL K O H ys ds → ∀ b ∈ ys.zip ds, At K O H b.1 b.2
  | _, _, .nil, _, h => by cases h
  | _, _, .cons h1 h2, b, h => by
    rcases List.mem_cons.mp h with rfl | h
    · exact h1
    · exact AtL.zipped h2 b h
theorem AtL.of_map : ∀ {bs : List (V × PyData)}, (∀ b ∈ bs, At K O H b.1 b.2) → AtL K O H (bs.map (·.1)) (bs.map (·.2))
  | [], _ => .nil
  | b :: bs, h => .cons (h b List.mem_cons_self) (AtL.of_map fun c hc => h c (List.mem_cons_of_mem _ hc))
theorem zip_snd {α β : Type} : ∀ {as : List α} {bs : List β}, as.length = bs.length → (as.zip bs).map (·.2) = bs
  | [], [], _ => rfl
  | a :: as, b :: bs, h => by rw [List.zip_cons_cons, List.map_cons, zip_snd (by simpa using h)]
theorem call_sortedP (hu : X.A.units + 64 < cLine) : CallF X (.builtin "sorted") sortedD := by
  intro pins sh σ H xs us Q I rv h
  obtain ⟨O, ds, z, a, e, k⟩ := h
  unfold sortedD at e
  split at e
  · split at e
    · rename_i ds ok
      cases e
      obtain ⟨p1, p2, p3, p4⟩ := okSort_of ok
      obtain ⟨v, rfl, av⟩ := a.one
      obtain ⟨b, ys, rfl, h1, h2⟩ := av.lst
      obtain ⟨u, rfl, ru⟩ := rv.one
      cases ru
      obtain ⟨its, r, hl, hz⟩ := I.list (SqL.of h1)
      have hlen : ys.length = ds.length := h2.len
      have e1 := vals_zip r hlen
      have hmap : (ys.zip ds).map (·.2) = ds := zip_snd hlen
      refine PySem.W.sorted_data (enc := fun b : V × PyData => b.2) (bs := ys.zip ds) hl.isList e1 (each_and e1 fun u b hb rb => ?_) (by rw [hmap]; exact p2) (by rw [hmap]; exact p3) (by rw [List.length_zip]; omega) (fun b hb => ?_) fun out hol eo => ?_
      · exact At.rds I (h2.zipped b hb) (plain_mem p1 (List.of_mem_zip hb).2) rb
      · have := p4 b.2 (List.of_mem_zip hb).2
        show X.A.units + 2 + b.2.depth < cLine
        omega
      · obtain ⟨ep, he'⟩ := PyProof.Rows.sortedAll_at sh.heap its out.toArray
        have hperm : ((ys.zip ds).mergeSort (PySem.W.dataLe false fun b : V × PyData => b.2)).Perm (ys.zip ds) := List.mergeSort_perm _ _
        have hA : AtL X.K O H (((ys.zip ds).mergeSort (PySem.W.dataLe false fun b : V × PyData => b.2)).map (·.1)) (sortD ds) := by
          have q := AtL.of_map (K := X.K) (O := O) (H := H) (bs := (ys.zip ds).mergeSort (PySem.W.dataLe false fun b : V × PyData => b.2)) fun b hb => h2.zipped b (hperm.mem_iff.mp hb)
          have q2 : ((ys.zip ds).mergeSort (PySem.W.dataLe false fun b : V × PyData => b.2)).map (·.2) = sortD ds := by
            have q3 := PySem.W.sort_maps (r := PySem.W.dataLe false fun b : V × PyData => b.2) (s := PySem.W.dataLe false (id : PyData → PyData)) (fun b : V × PyData => b.2) (l := ys.zip ds) (fun a _ b _ => rfl)
            rw [hmap] at q3
            exact q3
          rw [q2] at q
          exact q
        have hsz : (((ys.zip ds).mergeSort (PySem.W.dataLe false fun b : V × PyData => b.2)).map (·.1)).length ≤ sizeLine := by
          rw [List.length_map, hperm.length_eq, List.length_zip]
          omega
        exact ⟨.ref _, upd H (sh.heap.objs.size + 1) (.lst _), I.laid (t' := sh.toks) (fun _ _ => PyProof.Rows.sortedAll_old) (Nat.le_succ _) ⟨hsz, out, ep, each_vals eo, he'⟩, rfl, k _ _ (I.hok.fresh (Nat.le_succ _)) hA⟩
    · cases e
  · cases e
end
end PD
end
section
set_option Elab.async false
set_option linter.all false
set_option maxRecDepth 100000
set_option maxHeartbeats 4000000
/-! PD9: calls of the text's own defs; methods that change what a name alone holds; the hand. -/
namespace PD
open PySem PySem.Spec PyProof.Rows L2

/-- an argument: data, or the hand -/
inductive AV where
  | d (x : PyData) | hand
/-- what a def is worth: arguments, the hand's content, the wish of the value and the hand, the wish of an error's class and the hand -/
abbrev FSpec := List AV → List PyData → (PyData → List PyData → Prop) → (Addr → List PyData → Prop) → Prop
inductive AvL (K : PySem.W.Frag) (O : Ow) (ha : Option Addr) (H : Hp) : List V → List AV → Prop
  | nil : AvL K O ha H [] []
  | d {v : V} {vs : List V} {x : PyData} {rs : List AV} : At K O H v x → AvL K O ha H vs rs → AvL K O ha H (v :: vs) (.d x :: rs)
  | hand {a : Addr} {vs : List V} {rs : List AV} : ha = some a → AvL K O ha H vs rs → AvL K O ha H (.ref a :: vs) (.hand :: rs)
def HandOk (K : PySem.W.Frag) (O : Ow) (ha : Option Addr) (H : Hp) (hd : List PyData) : Prop := ∀ a, ha = some a → O a ∧ ∃ xs, H a = some (.lst xs) ∧ AtL K O H xs hd
def Fram (ha : Option Addr) (H H' : Hp) : Prop := ∀ a o, H a = some o → ha ≠ some a → H' a = some o
/-- a def's promise; fr: its value is new and held by nothing -/
def spD (K : PySem.W.Frag) (fr : Bool) (F : FSpec) : Sp := fun vs H Q E => ∃ (O : Ow) (ha : Option Addr) (avs : List AV) (hd : List PyData), HandOk K O ha H hd ∧ (∀ a, O a → H a ≠ none) ∧ AvL K O ha H vs avs ∧
  F avs hd (fun d hd' => ∀ v H', Fram ha H H' → HandOk K O ha H' hd' → (if fr = true then ∃ a, v = .ref a ∧ H a = none ∧ Own K (O.with a) H' a d ∧ HandOk K (O.with a) ha H' hd' else At K O H' v d) → Q v H')
    (fun C hd' => ∀ H', Fram ha H H' → HandOk K O ha H' hd' → E (.ref C) none H')

section
variable {K : PySem.W.Frag} {X : Cx} {p : Pm} {O O' : Ow} {σ : L2.St} {H H' : Hp} {s : PSt} {v : V} {d : PyData} {a : Addr} {e ea eb : Expr} {es : List Expr} {pos : Pos}
theorem AvL.to {ha : Option Addr} (k : Kp O H O' H') : ∀ {vs : List V} {rs : List AV}, AvL K O ha H vs rs → AvL K O' ha H' vs rs
  | _, _, .nil => .nil
  | _, _, .d h t => .d (h.to k) (AvL.to k t)
  | _, _, .hand h t => .hand h (AvL.to k t)
/-- behind a call: what was not the hand stands, the hand may have another content -/
theorem Fram.kp {hd : List PyData} (R : Rl K p O σ H s) (f : Fram p.ha H H') : Kp O H O H' := ⟨fun a o e n => f a o e fun z => n (R.hand a z).1, fun _ n _ => n⟩
theorem Rl.called {hd' : List PyData} (R : Rl K p O σ H s) (f : Fram p.ha H H') (h : HandOk K O p.ha H' hd') : Rl K p O σ H' { s with hd := hd' } := by
  have k : Kp O H O H' := f.kp (hd := hd') R
  have stay : ∀ {b o}, H b = some o → p.ha ≠ some b → H' b = H b := fun {b o} e n => by rw [e]; exact f b o e n
  refine ⟨R.len, fun i S e => ?_, R.inj, h, fun a o e n => f a o (R.frm a o e n) n, fun a z => ?_, R.o0, R.od, R.ob⟩
  · have q := R.sl i S e
    cases S with
    | no => trivial
    | v d => obtain ⟨y, e1, e2⟩ := q; exact ⟨y, e1, e2.to k⟩
    | m d =>
      obtain ⟨b, e1, e2, e3, e4, e5⟩ := q
      refine ⟨b, e1, e2, e3, e4, e5.to k ?_⟩
      cases e6 : H b with
      | none => exact absurd e6 e5.some
      | some o => rw [f b o e6 e4]
    | b d =>
      obtain ⟨b, e1, e2, e3, e4⟩ := q
      refine ⟨b, e1, e2, e3, e4.to k ?_⟩
      cases e6 : H b with
      | none => exact absurd e6 e4.some
      | some o => rw [f b o e6 e3]
    | h => exact q
  · by_cases e : p.ha = some a
    · obtain ⟨_, xs, e2, _⟩ := h a e
      rw [e2]; exact fun z => nomatch z
    · cases e6 : H a with
      | none => exact absurd e6 (R.dom a z)
      | some o => rw [f a o e6 e]; exact fun z => nomatch z
/-- Kp to a heap where one new address is owned -/
theorem Kp.withNew {b : Addr} (k : Kp O H O H') (hb : H b = none) : Kp O H (O.with b) H' := ⟨k.st, fun a n h z => by
  rcases z with z | z
  · exact n z
  · rw [z] at h; exact h hb⟩
theorem Rl.calledF {hd' : List PyData} {b : Addr} {d : PyData} (R : Rl K p O σ H s) (f : Fram p.ha H H') (hb : H b = none) (ow : Own K (O.with b) H' b d) (h : HandOk K (O.with b) p.ha H' hd') :
    Rl K p (O.with b) σ H' { s with hd := hd' } ∧ Kp O H (O.with b) H' ∧ Lone K p (O.with b) σ H' { s with hd := hd' } b d := by
  have k0 : Kp O H O H' := f.kp (hd := hd') R
  have k : Kp O H (O.with b) H' := k0.withNew hb
  obtain ⟨n1, n2, n3⟩ := R.fresh hb
  refine ⟨⟨R.len, fun i S e => ?_, R.inj, h, fun a o e n => f a o (R.frm a o e n) n, fun a z => ?_, fun a z => .inl (R.o0 a z), R.od, fun a z n => ?_⟩, k, .inr rfl, n1, n2, ow, n3⟩
  · have q := R.sl i S e
    cases S with
    | no => trivial
    | v d => obtain ⟨y, e1, e2⟩ := q; exact ⟨y, e1, e2.to k⟩
    | m d =>
      obtain ⟨c, e1, e2, e3, e4, e5⟩ := q
      refine ⟨c, e1, .inl e2, e3, e4, e5.to k ?_⟩
      cases e6 : H c with
      | none => exact absurd e6 e5.some
      | some o => rw [f c o e6 e4]
    | b d =>
      obtain ⟨c, e1, e2, e3, e4⟩ := q
      refine ⟨c, e1, e2, e3, e4.to k ?_⟩
      cases e6 : H c with
      | none => exact absurd e6 e4.some
      | some o => rw [f c o e6 e3]
    | h => exact q
  · rcases z with z | z
    · by_cases e : p.ha = some a
      · obtain ⟨_, xs, e2, _⟩ := h a e
        rw [e2]; exact fun z => nomatch z
      · cases e6 : H a with
        | none => exact absurd e6 (R.dom a z)
        | some o => rw [f a o e6 e]; exact fun z => nomatch z
    · rw [z]; exact ow.some
  · rcases z with z | z
    · exact R.ob a z n
    · rw [z] at n; exact absurd n1 n

/-! ### arguments -/
abbrev PTV := PSt → (List AV → PSt → Prop) → Prop
def liftV (K : PySem.W.Frag) (t : PTV) : TA := fun σ H QV => ∃ p O s, Rl K p O σ H s ∧ t s fun avs s' => ∀ vs O' H', Rl K p O' σ H' s' → Kp O H O' H' → AvL K O' p.ha H' vs avs → QV vs H'
structure DV (X : Cx) (es : List Expr) (t : PTV) : Prop where
  pa : PA X es (liftV X.K t)
  mono : ∀ s Q Q', (∀ d s', Q d s' → Q' d s') → t s Q → t s Q'
@[simp] def tNlV : PTV := fun s Q => Q [] s
@[simp] def tCnV (t : PTE) (u : PTV) : PTV := fun s Q => t s fun d s1 => u s1 fun ds s2 => Q (.d d :: ds) s2
@[simp] def tCnH (i : Nat) (u : PTV) : PTV := fun s Q => s.G[i]? = some .h ∧ u s fun ds s2 => Q (.hand :: ds) s2
theorem dv_nil : DV X [] tNlV := ⟨PA.weak pa_nil fun σ H Q ⟨p, O, s, R, q⟩ => q [] O H R .refl .nil, fun s Q Q' w q => w _ _ q⟩
theorem dv_cons {t : PTE} {u : PTV} (h : DE X e t) (k : DV X es u) (hs : starEach (e :: es) X.env = (false, eval e X.env) :: starEach es X.env := by rfl) : DV X (e :: es) (tCnV t u) :=
  ⟨PA.weak (pa_cons h.pe k.pa hs) fun σ H Q ⟨p, O, s, R, q⟩ => ⟨p, O, s, R, h.mono _ _ _ (fun d s1 q1 v1 O1 H1 R1 k1 a1 => ⟨p, O1, s1, R1, k.mono _ _ _ (fun ds s2 q2 vs O2 H2 R2 k2 a2 => q2 (v1 :: vs) O2 H2 R2 (k1.trans k2) (.d (a1.to k2) a2)) q1⟩) q⟩,
    fun s Q Q' w q => h.mono _ _ _ (fun d s1 q1 => k.mono _ _ _ (fun ds s2 => w (.d d :: ds) s2) q1) q⟩
theorem dv_hand {i : Nat} {u : PTV} (h : PE X e (tVar i)) (k : DV X es u) (hs : starEach (e :: es) X.env = (false, eval e X.env) :: starEach es X.env := by rfl) : DV X (e :: es) (tCnH i u) :=
  ⟨PA.weak (pa_cons h k.pa hs) fun σ H Q ⟨p, O, s, R, g, q⟩ => by
    obtain ⟨a, e1, e2⟩ := R.sl i _ g
    exact ⟨.ref a, e2, p, O, s, R, k.mono _ _ _ (fun ds s2 q2 vs O2 H2 R2 k2 a2 => q2 (.ref a :: vs) O2 H2 R2 k2 (.hand e1 a2)) q⟩,
    fun s Q Q' w q => ⟨q.1, k.mono _ _ _ (fun ds s2 => w (.hand :: ds) s2) q.2⟩⟩

/-! ### f(..) -/
@[simp] def tFn (F : FSpec) (t : PTV) : PTE := fun s Q => t s fun avs s' => F avs s'.hd (fun d hd => Q d { s' with hd := hd }) fun _ _ => False
/-- a spec in which a weaker wish is as good -/
def MonoF (F : FSpec) : Prop := ∀ avs hd Q Q' E E', (∀ d h, Q d h → Q' d h) → (∀ c h, E c h → E' c h) → F avs hd Q E → F avs hd Q' E'
theorem mono_fn {F : FSpec} {t : PTV} (hF : MonoF F) (h : DV X es t) : Mono (tFn F t) := fun s Q Q' w q => h.mono _ _ _ (fun avs s' q => hF _ _ _ _ _ _ (fun d hd => w d _) (fun _ _ z => z) q) q
section
variable {CX : CXT} {k : Nat} {f : Addr} {fd : FuncData} {ps : List Str} {F : FSpec} {x : Str} {p' : Pos} {t : PTV}
theorem fn_read {fr : Bool} {avs : List AV} {vs : List V} {QV : VK} (R : Rl K p O σ H s) (a : AvL K O p.ha H vs avs) (q : F avs s.hd (fun d hd => ∀ v H', Fram p.ha H H' → HandOk K O p.ha H' hd → (if fr = true then ∃ a, v = .ref a ∧ H a = none ∧ Own K (O.with a) H' a d ∧ HandOk K (O.with a) p.ha H' hd else At K O H' v d) → QV v H') fun _ _ => False) (hF : MonoF F) :
    spD K fr F vs H QV E0 := ⟨O, p.ha, avs, s.hd, fun a e => R.hand a e, R.dom, a, hF _ _ _ _ _ _ (fun d hd w => w) (fun _ _ z => z.elim) q⟩
theorem de_call (G : FnOk X.prog X.w X.K X.mg X.base CX k f fd ps (spD X.K false F)) (hF : MonoF F) (hr : Room k X.A) (hg : Gl X x) (hm : X.mg x = some (.ref f)) (hk : PySem.W.keepIn X.K (.ref f) = true) (hb : Binds X.K fd ps []) (hx : Passes CX X E0)
    (ha : DV X (e :: es) t) (hdb : (x == ("__debug__" : Str)) = false := by decide) (he : starEach (e :: es) X.env = (false, eval e X.env) :: starEach es X.env := by rfl) (hpl : (backTo pos (starEach es X.env)).any (·.1) = false := by rfl) :
    DE X (.Call (.Name x p') (e :: es) [] pos) (tFn F t) := by
  refine ⟨PE.weak (pe_call G hr hg hm hk hb .nil hx ha.pa hdb he hpl) fun σ H Q ⟨p, O, s, R, q⟩ => ⟨p, O, s, R, ha.mono _ _ _ (fun avs s' q vs O' H' R' k' a => ?_) q⟩, mono_fn hF ha⟩
  show spD X.K _ F (vs ++ []) H' Q E0
  rw [List.append_nil]
  refine fn_read (fr := false) R' a (hF _ _ _ _ _ _ (fun d hd q v H2 f h a2 => ?_) (fun _ _ z => z) q) hF
  exact q v O' H2 (R'.called f h) (k'.trans (f.kp (hd := hd) R')) a2
theorem df_call (G : FnOk X.prog X.w X.K X.mg X.base CX k f fd ps (spD X.K true F)) (hF : MonoF F) (hr : Room k X.A) (hg : Gl X x) (hm : X.mg x = some (.ref f)) (hk : PySem.W.keepIn X.K (.ref f) = true) (hb : Binds X.K fd ps []) (hx : Passes CX X E0)
    (ha : DV X (e :: es) t) (hdb : (x == ("__debug__" : Str)) = false := by decide) (he : starEach (e :: es) X.env = (false, eval e X.env) :: starEach es X.env := by rfl) (hpl : (backTo pos (starEach es X.env)).any (·.1) = false := by rfl) :
    DF X (.Call (.Name x p') (e :: es) [] pos) (tFn F t) := by
  refine ⟨PE.weak (pe_call G hr hg hm hk hb .nil hx ha.pa hdb he hpl) fun σ H Q ⟨p, O, s, R, q⟩ => ⟨p, O, s, R, ha.mono _ _ _ (fun avs s' q vs O' H' R' k' a => ?_) q⟩, mono_fn hF ha⟩
  show spD X.K _ F (vs ++ []) H' Q E0
  rw [List.append_nil]
  refine fn_read (fr := true) R' a (hF _ _ _ _ _ _ (fun d hd q v H2 f h a2 => ?_) (fun _ _ z => z) q) hF
  obtain ⟨b, rfl, hb, ow, h2⟩ := a2
  obtain ⟨R2, k2, l2⟩ := R'.calledF f hb ow h2
  exact q b _ H2 R2 (k'.trans k2) l2
end

/-! ### what a name alone holds, changed -/
/-- another content at an owned place that slot i holds -/
theorem Rl.put {i : Nat} {b : Addr} {d' : PyData} {o : HO} (R : Rl K p O σ H s) (g : s.G[i]? = some (.m d)) (eb : σ[i]? = some (some (.ref b))) (ow : Own K O (upd H b o) b d') :
    Rl K p O σ (upd H b o) { s with G := s.G.set i (.m d') } ∧ Kp O H O (upd H b o) := by
  obtain ⟨b', e1, e2, e3, e4, e5⟩ := R.sl i _ g
  rw [eb] at e1; cases e1
  have k : Kp O H O (upd H b o) := ⟨fun a u e n => by rw [upd_ne (fun z => n (by rw [z]; exact e2))]; exact e, fun _ n _ => n⟩
  have hi : i < s.G.length := (List.getElem?_eq_some_iff.mp g).1
  have stay : ∀ {c}, c ≠ b → upd H b o c = H c := fun n => upd_ne n
  refine ⟨⟨by rw [List.length_set]; exact R.len, fun j S e => ?_, fun j l d1 d2 c q1 q2 z1 z2 => ?_, fun a e => ?_, fun a u e n => ?_, fun a z => ?_, R.o0, R.od, R.ob⟩, k⟩
  · by_cases hj : i = j
    · subst hj
      have e : (s.G.set i (.m d'))[i]? = some S := e
      rw [List.getElem?_set_self hi] at e; cases e
      exact ⟨b, eb, e2, e3, e4, ow⟩
    · have e : (s.G.set i (.m d'))[j]? = some S := e
      rw [List.getElem?_set_ne hj] at e
      have q := R.sl j S e
      cases S with
      | no => trivial
      | v d => obtain ⟨y, e1, e2⟩ := q; exact ⟨y, e1, e2.to k⟩
      | m d0 =>
        obtain ⟨c, f1, f2, f3, f4, f5⟩ := q
        exact ⟨c, f1, f2, f3, f4, f5.to k (stay fun z => hj (R.inj i j d d0 b g e eb (by rw [f1, z])))⟩
      | b d0 =>
        obtain ⟨c, f1, f2, f3, f4⟩ := q
        exact ⟨c, f1, f2, f3, f4.to k (stay fun z => f2 (by rw [z]; exact e3))⟩
      | h => exact q
  · have get : ∀ (j : Nat) (d1 : PyData), (s.G.set i (.m d'))[j]? = some (.m d1) → ∃ d2, s.G[j]? = some (.m d2) := fun j d1 q => by
      by_cases hj : i = j
      · subst hj; exact ⟨d, g⟩
      · rw [List.getElem?_set_ne hj] at q; exact ⟨d1, q⟩
    obtain ⟨x1, y1⟩ := get j d1 q1
    obtain ⟨x2, y2⟩ := get l d2 q2
    exact R.inj j l x1 x2 c y1 y2 z1 z2
  · obtain ⟨f1, xs, f2, f3⟩ := R.hand a e
    exact ⟨f1, xs, by rw [stay fun z => e4 (by rw [← z]; exact e)]; exact f2, f3.to k⟩
  · have q := R.frm a u e n
    rw [stay fun z => by rw [z, e3] at e; cases e]; exact q
  · by_cases z' : a = b
    · rw [z', upd_same]; exact fun z => nomatch z
    · rw [stay z']; exact R.dom a z
/-- the slot's owned list -/
theorem Rl.mlist {i : Nat} {ds : List PyData} (R : Rl K p O σ H s) (g : s.G[i]? = some (.m (.list ds))) : ∃ b xs, σ[i]? = some (some (.ref b)) ∧ H b = some (.lst xs) ∧ AtL K O H xs ds ∧ O b := by
  obtain ⟨b, e1, e2, _, _, e5⟩ := R.sl i _ g
  cases e5 with
  | lst h1 h2 => exact ⟨b, _, e1, h1, h2, e2⟩
@[simp] def tApp (i : Nat) (t : PTE) : PTE := fun s Q => (∃ ds, s.G[i]? = some (.m (.list ds))) ∧ t s fun d s1 => ∃ ds, s1.G[i]? = some (.m (.list ds)) ∧ ds.length < sizeLine ∧ Q .none { s1 with G := s1.G.set i (.m (.list (ds ++ [d]))) }
variable {o : Expr} {apos cpos : Pos}
theorem de_append {i : Nat} {t : PTE} (h : PE X o (tVar i)) (ha : DE X e t) (hbase : attributeBase o "append" X.env (eval o X.env) = eval o X.env := by rfl) (hfew : ((backTo cpos (starEach [e] X.env)).all (fun x => !x.1) && (backToKw cpos (keywordEach [] X.env)).all (fun x => x.1.isSome) && decide ([e].length + ([] : List Keyword).length + (if ([] : List Keyword).isEmpty then 0 else 1) < 30)) = true := by rfl) (hline : (apos.endLine == cpos.line) = true := by rfl)
    (hs : starEach [e] X.env = (false, eval e X.env) :: starEach [] X.env := by rfl) (hpl : (backTo cpos (starEach [] X.env)).any (·.1) = false := by rfl) : DE X (.Call (.Attribute o "append" apos) [e] [] cpos) (tApp i t) := by
  refine ⟨PE.weak (pe_bm PySem.F.plainAttrs_list PySem.F.slot_list_append PySem.F.type_list_append mt_append h (pa_cons ha.pe pa_nil hs) hbase hfew hline hs hpl) fun σ H Q ⟨p, O, s, R, ⟨ds0, g0⟩, q⟩ => ?_, fun s Q Q' w ⟨g, q⟩ => ⟨g, ha.mono _ _ _ (fun d s1 ⟨ds, g1, z, q⟩ => ⟨ds, g1, z, w _ _ q⟩) q⟩⟩
  obtain ⟨b, xs, e1, e2, e3, e4⟩ := R.mlist g0
  refine ⟨.ref b, e1, .inl ⟨rfl, _, SqL.of e2⟩, p, O, s, R, ha.mono _ _ _ (fun d s1 ⟨ds, g1, z, q⟩ v O' H' R' k' a => ?_) q⟩
  obtain ⟨b', xs', f1, f2, f3, f4⟩ := R'.mlist g1
  rw [e1] at f1; cases f1
  have k2 : Kp O' H' O' (upd H' b (.lst (xs' ++ [v]))) := ⟨fun c u e n => by rw [upd_ne (fun z => n (by rw [z]; exact f4))]; exact e, fun _ n _ => n⟩
  obtain ⟨R2, k3⟩ := R'.put (d' := .list (ds ++ [d])) (o := .lst (xs' ++ [v])) g1 e1 (.lst upd_same ((f3.append (.cons a .nil)).to k2))
  exact ⟨b, xs', v, rfl, rfl, f2, by rw [f3.len]; exact z, q .non O' _ R2 (k'.trans k3) .non⟩
@[simp] def tExt (i : Nat) (t : PTE) : PTE := fun s Q => (∃ ds, s.G[i]? = some (.m (.list ds))) ∧ t s fun d s1 => ∃ ds es, s1.G[i]? = some (.m (.list ds)) ∧ d = .list es ∧ ds.length + es.length ≤ sizeLine ∧ Q .none { s1 with G := s1.G.set i (.m (.list (ds ++ es))) }
theorem de_extend {i : Nat} {t : PTE} (h : PE X o (tVar i)) (ha : DE X e t) (hbase : attributeBase o "extend" X.env (eval o X.env) = eval o X.env := by rfl) (hfew : ((backTo cpos (starEach [e] X.env)).all (fun x => !x.1) && (backToKw cpos (keywordEach [] X.env)).all (fun x => x.1.isSome) && decide ([e].length + ([] : List Keyword).length + (if ([] : List Keyword).isEmpty then 0 else 1) < 30)) = true := by rfl) (hline : (apos.endLine == cpos.line) = true := by rfl)
    (hs : starEach [e] X.env = (false, eval e X.env) :: starEach [] X.env := by rfl) (hpl : (backTo cpos (starEach [] X.env)).any (·.1) = false := by rfl) : DE X (.Call (.Attribute o "extend" apos) [e] [] cpos) (tExt i t) := by
  refine ⟨PE.weak (pe_bm PySem.F.plainAttrs_list PySem.F.slot_list_extend PySem.F.type_list_extend mt_extend h (pa_cons ha.pe pa_nil hs) hbase hfew hline hs hpl) fun σ H Q ⟨p, O, s, R, ⟨ds0, g0⟩, q⟩ => ?_, fun s Q Q' w ⟨g, q⟩ => ⟨g, ha.mono _ _ _ (fun d s1 ⟨ds, es, g1, e, z, q⟩ => ⟨ds, es, g1, e, z, w _ _ q⟩) q⟩⟩
  obtain ⟨b, xs, e1, e2, e3, e4⟩ := R.mlist g0
  refine ⟨.ref b, e1, .inl ⟨rfl, _, SqL.of e2⟩, p, O, s, R, ha.mono _ _ _ (fun d s1 ⟨ds, es, g1, ed, z, q⟩ v O' H' R' k' a => ?_) q⟩
  subst ed
  cases a with
  | lst h1 h2 =>
    rename_i c zs
    obtain ⟨b', xs', f1, f2, f3, f4⟩ := R'.mlist g1
    rw [e1] at f1; cases f1
    have k2 : Kp O' H' O' (upd H' b (.lst (xs' ++ zs))) := ⟨fun c u e n => by rw [upd_ne (fun z => n (by rw [z]; exact f4))]; exact e, fun _ n _ => n⟩
    obtain ⟨R2, k3⟩ := R'.put (d' := .list (ds ++ es)) (o := .lst (xs' ++ zs)) g1 e1 (.lst upd_same ((f3.append h2).to k2))
    exact ⟨b, c, xs', zs, rfl, rfl, f2, h1.2, by rw [f3.len, h2.len]; exact z, q .non O' _ R2 (k'.trans k3) .non⟩
@[simp] def tPop (i : Nat) : PTE := fun s Q => ∃ ds d, s.G[i]? = some (.m (.list ds)) ∧ ds[ds.length - 1]? = some d ∧ Q d { s with G := s.G.set i (.m (.list ds.dropLast)) }
theorem AtL.dropLast {xs : List V} {ds : List PyData} (h : AtL K O H xs ds) : AtL K O H xs.dropLast ds.dropLast := by
  rw [List.dropLast_eq_take, List.dropLast_eq_take, h.len]
  exact h.take _
theorem de_pop {i : Nat} (h : PE X o (tVar i)) (hbase : attributeBase o "pop" X.env (eval o X.env) = eval o X.env := by rfl) (hline : (apos.endLine == cpos.line) = true := by rfl) : DE X (.Call (.Attribute o "pop" apos) [] [] cpos) (tPop i) := by
  refine ⟨PE.weak (pe_bm0 PySem.F.plainAttrs_list PySem.F.slot_list_pop PySem.F.type_list_pop mt_pop h hbase hline) fun σ H Q ⟨p, O, s, R, ds, d, g, ed, q⟩ => ?_, fun s Q Q' w ⟨ds, d, g, ed, q⟩ => ⟨ds, d, g, ed, w _ _ q⟩⟩
  obtain ⟨b, xs, e1, e2, e3, e4⟩ := R.mlist g
  obtain ⟨y, y1, y2⟩ := e3.get' ed
  have k2 : Kp O H O (upd H b (.lst xs.dropLast)) := ⟨fun c u e n => by rw [upd_ne (fun z => n (by rw [z]; exact e4))]; exact e, fun _ n _ => n⟩
  obtain ⟨R2, k3⟩ := R.put (d' := .list ds.dropLast) (o := .lst xs.dropLast) g e1 (.lst upd_same (e3.dropLast.to k2))
  exact ⟨.ref b, e1, .inl ⟨rfl, _, SqL.of e2⟩, b, xs, y, rfl, rfl, e2, by rw [e3.len]; exact y1, q y O _ R2 k3 (y2.to k3)⟩
@[simp] def tPopAt (i : Nat) (t : PTE) : PTE := fun s Q => (∃ ds, s.G[i]? = some (.m (.list ds))) ∧ t s fun k s1 => ∃ ds j d, s1.G[i]? = some (.m (.list ds)) ∧ k = .int (j : Nat) ∧ j < 2 ^ 62 ∧ ds[j]? = some d ∧ Q d { s1 with G := s1.G.set i (.m (.list (ds.eraseIdx j))) }
theorem de_popAt {i : Nat} {t : PTE} (h : PE X o (tVar i)) (ha : DE X e t) (hbase : attributeBase o "pop" X.env (eval o X.env) = eval o X.env := by rfl) (hfew : ((backTo cpos (starEach [e] X.env)).all (fun x => !x.1) && (backToKw cpos (keywordEach [] X.env)).all (fun x => x.1.isSome) && decide ([e].length + ([] : List Keyword).length + (if ([] : List Keyword).isEmpty then 0 else 1) < 30)) = true := by rfl) (hline : (apos.endLine == cpos.line) = true := by rfl)
    (hs : starEach [e] X.env = (false, eval e X.env) :: starEach [] X.env := by rfl) (hpl : (backTo cpos (starEach [] X.env)).any (·.1) = false := by rfl) : DE X (.Call (.Attribute o "pop" apos) [e] [] cpos) (tPopAt i t) := by
  refine ⟨PE.weak (pe_bm PySem.F.plainAttrs_list PySem.F.slot_list_pop PySem.F.type_list_pop mt_popAt h (pa_cons ha.pe pa_nil hs) hbase hfew hline hs hpl) fun σ H Q ⟨p, O, s, R, ⟨ds0, g0⟩, q⟩ => ?_, fun s Q Q' w ⟨g, q⟩ => ⟨g, ha.mono _ _ _ (fun k s1 ⟨ds, j, d, g1, e, z, y, q⟩ => ⟨ds, j, d, g1, e, z, y, w _ _ q⟩) q⟩⟩
  obtain ⟨b, xs, e1, e2, e3, e4⟩ := R.mlist g0
  refine ⟨.ref b, e1, .inl ⟨rfl, _, SqL.of e2⟩, p, O, s, R, ha.mono _ _ _ (fun k s1 ⟨ds, j, d, g1, ek, z, y, q⟩ v O' H' R' k' a => ?_) q⟩
  subst ek
  cases a
  obtain ⟨b', xs', f1, f2, f3, f4⟩ := R'.mlist g1
  rw [e1] at f1; cases f1
  obtain ⟨w, w1, w2⟩ := f3.get' y
  have hj : j < xs'.length := (List.getElem?_eq_some_iff.mp w1).1
  have k2 : Kp O' H' O' (upd H' b (.lst (xs'.eraseIdx j))) := ⟨fun c u e n => by rw [upd_ne (fun z => n (by rw [z]; exact f4))]; exact e, fun _ n _ => n⟩
  obtain ⟨R2, k3⟩ := R'.put (d' := .list (ds.eraseIdx j)) (o := .lst (xs'.eraseIdx j)) g1 e1 (.lst upd_same ((f3.eraseIdx j).to k2))
  refine ⟨b, xs', j, j, w, rfl, rfl, f2, by omega, by omega, ?_, w1, q w O' _ R2 (k'.trans k3) (w2.to k3)⟩
  rw [seqIndex_of (by omega) (by omega)]
  simp

/-! ### the hand -/
@[simp] def tHix (i : Nat) (t : PTE) : PTE := fun s Q => s.G[i]? = some .h ∧ t s fun k s1 => ∃ j d, k = .int j ∧ atI s1.hd j = some d ∧ Q d s1
theorem de_hix {i : Nat} {t : PTE} (hu : X.A.units + 64 < cLine) (h : PE X o (tVar i)) (hb : DE X e t) (hs : PlainIx e := by exact fun _ _ => rfl) : DE X (.Subscript o e pos) (tHix i t) := by
  refine ⟨PE.weak (pe_ix ix_list h hb.pe hs) fun σ H Q ⟨p, O, s, R, g, q⟩ => ?_, fun s Q Q' w ⟨g, q⟩ => ⟨g, hb.mono _ _ _ (fun k s1 ⟨j, d, e1, e2, q⟩ => ⟨j, d, e1, e2, w _ _ q⟩) q⟩⟩
  obtain ⟨a, e1, e2⟩ := R.sl i _ g
  refine ⟨.ref a, e2, p, O, s, R, hb.mono _ _ _ (fun k s1 ⟨j, d, ek, ed, q⟩ v O' H' R' k' av => ?_) q⟩
  subst ek
  cases av
  obtain ⟨f1, xs, f2, f3⟩ := R'.hand a e1
  obtain ⟨w, w1, w2⟩ := f3.atI ed
  exact ⟨a, xs, j, w, rfl, rfl, SqL.of f2, w1, q w O' H' R' k' w2⟩
/-- the hand's content changed -/
theorem Rl.handPut {b : Addr} {xs : List V} {ds : List PyData} (R : Rl K p O σ H s) (hb : p.ha = some b) (l : AtL K O H xs ds) : Rl K p O σ (upd H b (.lst xs)) { s with hd := ds } ∧ Kp O H O (upd H b (.lst xs)) := by
  obtain ⟨h1, xs0, h2, h3⟩ := R.hand b hb
  have k : Kp O H O (upd H b (.lst xs)) := ⟨fun a u e n => by rw [upd_ne (fun z => n (by rw [z]; exact h1))]; exact e, fun _ n _ => n⟩
  have f : Fram p.ha H (upd H b (.lst xs)) := fun a o e n => by rw [upd_ne (fun z => n (by rw [z]; exact hb))]; exact e
  exact ⟨R.called f fun a e => by
    rw [hb] at e; cases e
    exact ⟨h1, xs, upd_same, l.to k⟩, k⟩
end
end PD
end
section
set_option Elab.async false
set_option linter.all false
set_option maxRecDepth 100000
set_option maxHeartbeats 4000000
/-! PD10: targets, what is walked, list comprehensions. -/
namespace PD
open PySem PySem.Spec PyProof.Rows L2

section
variable {K : PySem.W.Frag} {X : Cx} {p : Pm} {O O' : Ow} {σ σ' : L2.St} {H H' : Hp} {s s' : PSt} {v : V} {d : PyData} {a : Addr} {e ea eb : Expr} {es : List Expr} {pos : Pos}

/-! ### a state seen by a block within -/
theorem wipe_get {i : Nat} : ∀ {vs : List Nat}, i ∉ vs → (L2.wipe σ vs)[i]? = σ[i]?
  | [], _ => rfl
  | w :: ws, h => by
    have h1 : w ≠ i := fun z => h (by rw [z]; exact List.mem_cons_self)
    have h2 : i ∉ ws := fun z => h (List.mem_cons_of_mem _ z)
    show ((L2.wipe σ ws).set w none)[i]? = σ[i]?
    rw [List.getElem?_set_ne h1]
    exact wipe_get h2
@[simp] def wipeG (G : List Sl) : List Nat → List Sl
  | [] => G
  | v :: vs => (wipeG G vs).set v .no
@[simp] def Sl.inn : Sl → Sl
  | .m d => .b d
  | S => S
@[simp] def blkG (G : List Sl) (vs : List Nat) : List Sl := wipeG (G.map Sl.inn) vs
theorem wipeG_len (G : List Sl) : ∀ vs, (wipeG G vs).length = G.length
  | [] => rfl
  | v :: vs => by unfold wipeG; rw [List.length_set, wipeG_len G vs]
theorem wipeG_get {G : List Sl} {i : Nat} {S : Sl} : ∀ {vs : List Nat}, (wipeG G vs)[i]? = some S → S = .no ∨ (i ∉ vs ∧ G[i]? = some S)
  | [], h => .inr ⟨List.not_mem_nil, h⟩
  | v :: vs, h => by
    by_cases e : v = i
    · subst e
      have h : ((wipeG G vs).set v .no)[v]? = some S := h
      rw [List.getElem?_set] at h
      simp only [if_true] at h
      split at h
      · injection h with h; exact .inl h.symm
      · cases h
    · have h : ((wipeG G vs).set v .no)[i]? = some S := h
      rw [List.getElem?_set_ne e] at h
      rcases wipeG_get h with q | ⟨q1, q2⟩
      · exact .inl q
      · exact .inr ⟨fun z => by
          rcases List.mem_cons.mp z with z | z
          · exact e z.symm
          · exact q1 z, q2⟩
theorem Rl.into (R : Rl K p O σ H s) (vs : List Nat) : Rl K ⟨p.ha, H, O⟩ O (L2.wipe σ vs) H { s with G := blkG s.G vs } := by
  refine ⟨?_, fun i S e => ?_, fun i j d d' a e1 => ?_, R.hand, fun a o e _ => e, R.dom, fun a z => z, fun a z => R.dom a z, fun a z _ => z⟩
  · show (wipeG (s.G.map Sl.inn) vs).length = (L2.wipe σ vs).length
    rw [wipeG_len, L2.wipe_length, List.length_map]
    exact R.len
  · rcases wipeG_get e with z | ⟨z1, z2⟩
    · subst z; trivial
    · rw [wipe_get z1]
      rw [List.getElem?_map] at z2
      cases q : s.G[i]? with
      | none => rw [q] at z2; cases z2
      | some S0 =>
        rw [q] at z2
        injection z2 with z2
        have w := R.sl i S0 q
        subst z2
        cases S0 with
        | no => trivial
        | v d => exact w
        | m d =>
          obtain ⟨a, q1, q2, q3, q4, q5⟩ := w
          exact ⟨a, q1, q5.some, q4, q5⟩
        | b d =>
          obtain ⟨a, q1, q2, q3, q4⟩ := w
          exact ⟨a, q1, q4.some, q3, q4⟩
        | h => exact w
  · rcases wipeG_get e1 with z | ⟨z1, z2⟩
    · cases z
    · rw [List.getElem?_map] at z2
      cases q : s.G[i]? with
      | none => rw [q] at z2; cases z2
      | some S0 =>
        rw [q] at z2
        injection z2 with z2
        cases S0 <;> cases z2
theorem Rl.back (R : Rl K p O σ H s) (R' : Rl K ⟨p.ha, H, O⟩ O' σ' H' s') (k : Kp O H O' H') : Rl K p O' σ H' { s with hd := s'.hd } := by
  have stay : ∀ {b : Addr}, H b ≠ none → p.ha ≠ some b → H' b = H b := fun {b} h n => by
    cases e : H b with
    | none => exact absurd e h
    | some o => exact R'.frm b o e n
  refine ⟨R.len, fun i S e => ?_, R.inj, R'.hand, fun a o e n => R'.frm a o (R.frm a o e n) n, R'.dom, fun a z => R'.o0 a (R.o0 a z), R.od, fun a z n => ?_⟩
  · have w := R.sl i S e
    cases S with
    | no => trivial
    | v d => obtain ⟨y, e1, e2⟩ := w; exact ⟨y, e1, e2.to k⟩
    | m d =>
      obtain ⟨b, e1, e2, e3, e4, e5⟩ := w
      exact ⟨b, e1, R'.o0 b e2, e3, e4, e5.to k (stay e5.some e4)⟩
    | b d =>
      obtain ⟨b, e1, e2, e3, e4⟩ := w
      exact ⟨b, e1, e2, e3, e4.to k (stay e4.some e3)⟩
    | h => exact w
  · refine R.ob a (R'.ob a z ?_) n
    show H a ≠ none
    by_cases e : p.ha = some a
    · obtain ⟨_, xs, q, _⟩ := R.hand a e
      rw [q]; exact fun z => nomatch z
    · cases q : p.H0 a with
      | none => exact absurd q n
      | some o => rw [R.frm a o q e]; exact fun z => nomatch z

/-! ### targets -/
abbrev PTG := PyData → PSt → (PSt → Prop) → Prop
abbrev PTGs := List PyData → PSt → (PSt → Prop) → Prop
/-- just the slots ws are otherwise -/
def Upd (ws : List Nat) (σ σ' : L2.St) : Prop := ∀ us : List Nat, (∀ w ∈ ws, w ∈ us) → L2.wipe σ' us = L2.wipe σ us
def liftG (K : PySem.W.Frag) (ws : List Nat) (g : PTG) : TG := fun v σ H Q => ∃ p O s d, Rl K p O σ H s ∧ At K O H v d ∧ g d s fun s' => ∀ σ', Rl K p O σ' H s' → Upd ws σ σ' → Q σ' H
def liftGs (K : PySem.W.Frag) (ws : List Nat) (g : PTGs) : TGs := fun vs σ H Q => ∃ p O s ds, Rl K p O σ H s ∧ AtL K O H vs ds ∧ g ds s fun s' => ∀ σ', Rl K p O σ' H s' → Upd ws σ σ' → Q σ' H
structure DG (X : Cx) (tg : Expr) (ws : List Nat) (g : PTG) : Prop where
  pg : PG X tg (liftG X.K ws g)
  mono : ∀ d s Q Q', (∀ s', Q s' → Q' s') → g d s Q → g d s Q'
structure DGs (X : Cx) (tg : List Expr) (ws : List Nat) (g : PTGs) : Prop where
  pg : PGs X tg (liftGs X.K ws g)
  mono : ∀ d s Q Q', (∀ s', Q s' → Q' s') → g d s Q → g d s Q'
theorem PG.weak {t t' : TG} (h : PG X e t) (w : ∀ v σ H Q, t' v σ H Q → t v σ H Q) : PG X e t' := ⟨fun pins s σ H v u Q I r q => h.run pins s σ H v u Q I r (w _ _ _ _ q)⟩
theorem PGs.weak {t t' : TGs} (h : PGs X es t) (w : ∀ v σ H Q, t' v σ H Q → t v σ H Q) : PGs X es t' := ⟨fun pins s σ H v u Q I r q => h.run pins s σ H v u Q I r (w _ _ _ _ q)⟩
theorem Upd.refl {ws : List Nat} : Upd ws σ σ := fun _ _ => rfl
theorem wipe_set {i : Nat} {x : Option V} : ∀ {us : List Nat}, i ∈ us → L2.wipe (σ.set i x) us = L2.wipe σ us
  | [], h => nomatch h
  | u :: us, h => by
    show (L2.wipe (σ.set i x) us).set u none = (L2.wipe σ us).set u none
    by_cases e : i ∈ us
    · rw [wipe_set e]
    · have e' : i = u := (List.mem_cons.mp h).resolve_right e
      subst e'
      have w : ∀ vs : List Nat, i ∉ vs → L2.wipe (σ.set i x) vs = (L2.wipe σ vs).set i x := fun vs => by
        induction vs with
        | nil => exact fun _ => rfl
        | cons y ys ih =>
          intro n
          have n1 : i ≠ y := fun z => n (by rw [z]; exact List.mem_cons_self)
          show (L2.wipe (σ.set i x) ys).set y none = ((L2.wipe σ ys).set y none).set i x
          rw [ih fun z => n (List.mem_cons_of_mem _ z), List.set_comm _ _ n1]
      rw [w us e, List.set_set]
theorem Rl.setv {i : Nat} {x : V} (R : Rl K p O σ H s) (h : At K O H x d) : Rl K p O (σ.set i (some x)) H { s with G := s.G.set i (.v d) } := by
  refine ⟨by rw [List.length_set, List.length_set]; exact R.len, fun j S e => ?_, fun j l d1 d2 c q1 q2 z1 z2 => ?_, R.hand, R.frm, R.dom, R.o0, R.od, R.ob⟩
  · by_cases hj : i = j
    · subst hj
      have e : (s.G.set i (.v d))[i]? = some S := e
      have hi : i < s.G.length := by
        by_cases q : i < s.G.length
        · exact q
        · rw [List.getElem?_eq_none (by rw [List.length_set]; omega)] at e; cases e
      rw [List.getElem?_set_self hi] at e; cases e
      exact ⟨x, by rw [List.getElem?_set_self (by rw [← R.len]; exact hi)], h⟩
    · have e : (s.G.set i (.v d))[j]? = some S := e
      rw [List.getElem?_set_ne hj] at e ⊢
      exact R.sl j S e
  · have get : ∀ (j : Nat) (d1 : PyData), (s.G.set i (.v d))[j]? = some (.m d1) → i ≠ j ∧ s.G[j]? = some (.m d1) := fun j d1 q => by
      by_cases hj : i = j
      · subst hj
        rw [List.getElem?_set] at q
        simp only [if_true] at q
        split at q <;> cases q
      · rw [List.getElem?_set_ne hj] at q; exact ⟨hj, q⟩
    obtain ⟨n1, x1⟩ := get j d1 q1
    obtain ⟨n2, x2⟩ := get l d2 q2
    rw [List.getElem?_set_ne n1] at z1
    rw [List.getElem?_set_ne n2] at z2
    exact R.inj j l d1 d2 c x1 x2 z1 z2
@[simp] def gN (i : Nat) : PTG := fun d s Q => Q { s with G := s.G.set i (.v d) }
theorem dg_name {i : Nat} {x : Str} (hN : X.N.Nodup) (hi : X.N[i]? = some x) (hx : Loc X.env.scope x) (hf : X.fn x = true ∨ X.env.scope.names.lookup x = some .local) : DG X (.Name x pos) [i] (gN i) :=
  ⟨PG.weak (pg_name hN hi hx hf) fun v σ H Q ⟨p, O, s, d, R, h, q⟩ => q _ (R.setv h) fun us hu => wipe_set (hu i List.mem_cons_self), fun d s Q Q' w q => w _ q⟩
@[simp] def gNi : PTGs := fun ds s Q => ds = [] ∧ Q s
@[simp] def gCo (g : PTG) (u : PTGs) : PTGs := fun ds s Q => ∃ d r, ds = d :: r ∧ g d s fun s' => u r s' Q
theorem dgs_nil : DGs X [] [] gNi :=
  ⟨PGs.weak pgs_nil fun vs σ H Q ⟨p, O, s, ds, R, h, e, q⟩ => by subst e; cases h; exact ⟨rfl, q σ R .refl⟩, fun d s Q Q' w q => ⟨q.1, w _ q.2⟩⟩
theorem dgs_cons {ws us : List Nat} {g : PTG} {u : PTGs} (h1 : DG X e ws g) (h2 : DGs X es us u)
    (hs : (assignEach (e :: es) X.env).map (·.2) = assign e X.env :: (assignEach es X.env).map (·.2) := by rfl) : DGs X (e :: es) (ws ++ us) (gCo g u) :=
  ⟨PGs.weak (pgs_cons h1.pg h2.pg hs) fun vs σ H Q ⟨p, O, s, ds, R, h, d, r, e, q⟩ => by
    subst e
    cases h with
    | cons a1 a2 =>
      refine ⟨_, _, rfl, p, O, s, d, R, a1, h1.mono _ _ _ _ (fun s1 q1 σ1 R1 u1 => ⟨p, O, s1, r, R1, a2, h2.mono _ _ _ _ (fun s2 q2 σ2 R2 u2 => q2 σ2 R2 fun xs hx => ?_) q1⟩) q⟩
      rw [u2 xs fun w z => hx w (List.mem_append_right _ z), u1 xs fun w z => hx w (List.mem_append_left _ z)],
    fun d s Q Q' w ⟨x, r, e, q⟩ => ⟨x, r, e, h1.mono _ _ _ _ (fun s' => h2.mono _ _ _ _ w) q⟩⟩
@[simp] def gTu (n : Nat) (u : PTGs) : PTG := fun d s Q => ∃ ds, d = .tuple ds ∧ ds.length = n ∧ u ds s Q
theorem dg_tup {ws : List Nat} {k : Nat} {u : PTGs} {n : Nat} (hc : X.calm = true) (h : DGs X es ws u)
    (hn : (assignEach es X.env).length = n := by rfl) (hst : (assignEach es X.env).findIdx? (·.1) = none := by rfl) : DG X (.Tuple es k pos) ws (gTu n u) :=
  ⟨PG.weak (pg_tup hc h.pg hn hst) fun v σ H Q ⟨p, O, s, d, R, a, ds, e, hl, q⟩ => by
    subst e
    cases a with
    | tup s1 l1 => exact ⟨_, _, rfl, s1.sq, by rw [l1.len]; exact hl, p, O, s, ds, R, l1, q⟩,
    fun d s Q Q' w ⟨ds, e, hl, q⟩ => ⟨ds, e, hl, h.mono _ _ _ _ w q⟩⟩

/-! ### what is walked -/
/-- how much stands through the walk; lo: all but the hand -/
def Stand (lo : Bool) (p : Pm) (O1 : Ow) (H1 : Hp) (O : Ow) (H : Hp) : Prop := Kp O1 H1 O H ∧ (lo = true → ∀ a o, H1 a = some o → p.ha ≠ some a → H a = some o)
structure ItOk (K : PySem.W.Frag) (G : Ow → Hp → Prop) (J : It) (items : List PyData) : Prop where
  go : ∀ i O H, G O H → i < items.length → J.go i H
  stop : ∀ i O H, G O H → items.length ≤ i → J.stop i H
  yld : ∀ i O H x H' d, G O H → (∀ a, O a → H a ≠ none) → items[i]? = some d → J.yld i H x H' → (H' = H ∨ ∃ q o, H q = none ∧ H' = upd H q o) ∧ At K O H' x d
abbrev PTI := PSt → (List PyData → PSt → Prop) → Prop
def liftI (K : PySem.W.Frag) (lo : Bool) (t : PTI) : TI := fun σ H R => ∃ p O s, Rl K p O σ H s ∧ t s fun items s' => ∀ J O' H', Rl K p O' σ H' s' → Kp O H O' H' → ItOk K (Stand lo p O' H') J items → R J H'
structure DI (X : Cx) (lo : Bool) (tg e : Expr) (t : PTI) : Prop where
  pi : PI X tg e (liftI X.K lo t)
  mono : ∀ s Q Q', (∀ d s', Q d s' → Q' d s') → t s Q → t s Q'
theorem PI.weak {tg : Expr} {t t' : TI} (h : PI X tg e t) (w : ∀ σ H Q, t' σ H Q → t σ H Q) : PI X tg e t' := ⟨fun pins s σ H Q I q => h.run pins s σ H Q I (w _ _ _ q)⟩
theorem Stand.lo {lo : Bool} {O1 : Ow} {H1 : Hp} (h : Stand true p O1 H1 O H) : Stand lo p O1 H1 O H := ⟨h.1, fun _ => h.2 rfl⟩
theorem DI.lo {tg : Expr} {t : PTI} (h : DI X false tg e t) : DI X true tg e t :=
  ⟨PI.weak h.pi fun σ H R ⟨p, O, s, r, q⟩ => ⟨p, O, s, r, h.mono _ _ _ (fun d s' k J O' H' r' kp i => k J O' H' r' kp ⟨fun n O2 H2 g => i.go n O2 H2 ⟨g.1, fun z => nomatch z⟩, fun n O2 H2 g => i.stop n O2 H2 ⟨g.1, fun z => nomatch z⟩, fun n O2 H2 x H3 d g => i.yld n O2 H2 x H3 d ⟨g.1, fun z => nomatch z⟩⟩) q⟩, h.mono⟩
/-- lists -/
theorem it_list {G : Ow → Hp → Prop} {a : Addr} {xs : List V} {ds : List PyData} (h : ∀ O H, G O H → H a = some (.lst xs) ∧ AtL K O H xs ds) : ItOk K G (Itl K a) ds where
  go i O H g hi := by
    obtain ⟨h1, h2⟩ := h O H g
    exact ⟨xs, _, SqL.of h1, List.getElem?_eq_getElem (by rw [h2.len]; exact hi)⟩
  stop i O H g hi := by
    obtain ⟨h1, h2⟩ := h O H g
    exact ⟨xs, SqL.of h1, by rw [h2.len]; exact hi⟩
  yld i O H x H' d g _ hd y := by
    obtain ⟨e, y⟩ := y
    subst e
    obtain ⟨h1, h2⟩ := h O H' g
    obtain ⟨w, w1, w2⟩ := h2.get' hd
    rw [y xs (SqL.of h1)] at w1
    cases w1
    exact ⟨.inl rfl, w2⟩
theorem it_tup {G : Ow → Hp → Prop} {a : Addr} {xs : List V} {ds : List PyData} (h : ∀ O H, G O H → SqTo O H a xs ∧ AtL K O H xs ds) : ItOk K G (Itt K a) ds where
  go i O H g hi := by
    obtain ⟨h1, h2⟩ := h O H g
    exact ⟨xs, _, h1.sq, List.getElem?_eq_getElem (by rw [h2.len]; exact hi)⟩
  stop i O H g hi := by
    obtain ⟨h1, h2⟩ := h O H g
    exact ⟨xs, h1.sq, by rw [h2.len]; exact hi⟩
  yld i O H x H' d g _ hd y := by
    obtain ⟨e, y⟩ := y
    subst e
    obtain ⟨h1, h2⟩ := h O H' g
    obtain ⟨w, w1, w2⟩ := h2.get' hd
    rw [y xs h1.sq] at w1
    cases w1
    exact ⟨.inl rfl, w2⟩
theorem it_rng {G : Ow → Hp → Prop} {lo : Int} {n : Nat} : ItOk K G (Itr lo n) ((List.range n).map fun i => .int (lo + (i : Nat))) where
  go i O H g hi := by
    show i < n
    simpa using hi
  stop i O H g hi := by
    show n ≤ i
    simpa using hi
  yld i O H x H' d g _ hd y := by
    obtain ⟨e, y⟩ := y
    subst e y
    have hi : i < n := by
      have := (List.getElem?_eq_some_iff.mp hd).1
      simpa using this
    rw [List.getElem?_map, List.getElem?_range hi] at hd
    cases hd
    exact ⟨.inl rfl, .int _⟩
/-- a new pair -/
theorem at_pair {T : Addr} {x y : V} {d d' : PyData} (hd : ∀ a, O a → H a ≠ none) (hT : H T = none) (h1 : At K O H x d) (h2 : At K O H y d') : At K O (upd H T (.tup [x, y])) (.ref T) (.tuple [d, d']) :=
  .tup ⟨fun z => hd T z hT, upd_same⟩ (.cons (h1.to (Kp.new hT)) (.cons (h2.to (Kp.new hT)) .nil))
def enumD (ds : List PyData) : List PyData := ds.mapIdx fun i d => .tuple [.int (i : Nat), d]
theorem it_enum {G : Ow → Hp → Prop} {a : Addr} {xs : List V} {ds : List PyData} (h : ∀ O H, G O H → H a = some (.lst xs) ∧ AtL K O H xs ds) : ItOk K G (Ite K a) (enumD ds) where
  go i O H g hi := by
    obtain ⟨h1, h2⟩ := h O H g
    exact ⟨xs, _, SqL.of h1, List.getElem?_eq_getElem (by rw [h2.len]; simpa [enumD] using hi)⟩
  stop i O H g hi := by
    obtain ⟨h1, h2⟩ := h O H g
    exact ⟨xs, SqL.of h1, by rw [h2.len]; simpa [enumD] using hi⟩
  yld i O H x H' d g hdm hd y := by
    obtain ⟨T, v, e1, hT, e2, y⟩ := y
    subst e1 e2
    obtain ⟨h1, h2⟩ := h O H g
    have y := y xs (SqL.of h1)
    obtain ⟨w, w1, w2⟩ := h2.get y
    have hd : (ds.mapIdx fun i d => PyData.tuple [.int (i : Nat), d])[i]? = some d := hd
    rw [List.getElem?_mapIdx, w1] at hd
    cases hd
    exact ⟨.inr ⟨T, _, hT, rfl⟩, at_pair hdm hT (.int _) w2⟩
def zipD (xs ys : List PyData) : List PyData := (xs.zip ys).map fun p => .tuple [p.1, p.2]
theorem zipD_get {ds es : List PyData} {i : Nat} {d : PyData} (h : (zipD ds es)[i]? = some d) : ∃ x y, ds[i]? = some x ∧ es[i]? = some y ∧ d = .tuple [x, y] := by
  unfold zipD at h
  rw [List.getElem?_map] at h
  cases q : (ds.zip es)[i]? with
  | none => rw [q] at h; cases h
  | some pr =>
    rw [q] at h
    injection h with h
    have := List.getElem?_zip_eq_some.mp q
    exact ⟨pr.1, pr.2, this.1, this.2, h.symm⟩
theorem it_zipL {G : Ow → Hp → Prop} {a b : Addr} {xs ys : List V} {ds es : List PyData} (h : ∀ O H, G O H → (H a = some (.lst xs) ∧ AtL K O H xs ds) ∧ H b = some (.lst ys) ∧ AtL K O H ys es) : ItOk K G (Itz K a b) (zipD ds es) where
  go i O H g hi := by
    obtain ⟨⟨h1, h2⟩, h3, h4⟩ := h O H g
    have hi : i < ds.length ∧ i < es.length := by simpa [zipD, Nat.lt_min] using hi
    exact ⟨xs, ys, _, _, SqL.of h1, SqL.of h3, List.getElem?_eq_getElem (by rw [h2.len]; exact hi.1), List.getElem?_eq_getElem (by rw [h4.len]; exact hi.2)⟩
  stop i O H g hi := by
    obtain ⟨⟨h1, h2⟩, h3, h4⟩ := h O H g
    refine ⟨xs, ys, SqL.of h1, SqL.of h3, ?_⟩
    have hi : min ds.length es.length ≤ i := by simpa [zipD] using hi
    rw [h2.len, h4.len]
    omega
  yld i O H x H' d g hdm hd y := by
    obtain ⟨T, v, w, e1, hT, e2, y1, y2⟩ := y
    subst e1 e2
    obtain ⟨⟨h1, h2⟩, h3, h4⟩ := h O H g
    obtain ⟨w1, q1, r1⟩ := h2.get (y1 xs (SqL.of h1))
    obtain ⟨w2, q2, r2⟩ := h4.get (y2 ys (SqL.of h3))
    obtain ⟨x', y', z1, z2, z3⟩ := zipD_get hd
    rw [q1] at z1; cases z1
    rw [q2] at z2; cases z2
    subst z3
    exact ⟨.inr ⟨T, _, hT, rfl⟩, at_pair hdm hT r1 r2⟩
theorem it_zipT {G : Ow → Hp → Prop} {a b : Addr} {xs ys : List V} {ds es : List PyData} (h : ∀ O H, G O H → (SqTo O H a xs ∧ AtL K O H xs ds) ∧ SqTo O H b ys ∧ AtL K O H ys es) : ItOk K G (RZ.ItzT K a b) (zipD ds es) where
  go i O H g hi := by
    obtain ⟨⟨h1, h2⟩, h3, h4⟩ := h O H g
    have hi : i < ds.length ∧ i < es.length := by simpa [zipD, Nat.lt_min] using hi
    exact ⟨xs, ys, _, _, h1.sq, h3.sq, List.getElem?_eq_getElem (by rw [h2.len]; exact hi.1), List.getElem?_eq_getElem (by rw [h4.len]; exact hi.2)⟩
  stop i O H g hi := by
    obtain ⟨⟨h1, h2⟩, h3, h4⟩ := h O H g
    refine ⟨xs, ys, h1.sq, h3.sq, ?_⟩
    have hi : min ds.length es.length ≤ i := by simpa [zipD] using hi
    rw [h2.len, h4.len]
    omega
  yld i O H x H' d g hdm hd y := by
    obtain ⟨T, v, w, e1, hT, e2, y1, y2⟩ := y
    subst e1 e2
    obtain ⟨⟨h1, h2⟩, h3, h4⟩ := h O H g
    obtain ⟨w1, q1, r1⟩ := h2.get (y1 xs h1.sq)
    obtain ⟨w2, q2, r2⟩ := h4.get (y2 ys h3.sq)
    obtain ⟨x', y', z1, z2, z3⟩ := zipD_get hd
    rw [q1] at z1; cases z1
    rw [q2] at z2; cases z2
    subst z3
    exact ⟨.inr ⟨T, _, hT, rfl⟩, at_pair hdm hT r1 r2⟩
end
end PD
end
section
set_option Elab.async false
set_option linter.all false
set_option maxRecDepth 100000
set_option maxHeartbeats 4000000
/-! PD11: enumerate of a tuple; sources of walks. -/
namespace PD
open PySem PySem.Spec PyProof.Rows L2

/-! ### enumerate(tuple) -/
theorem enumT_new {v : Value} {o : Obj} {G : Heap → Prop} (B : Begins v o G) :
    Meets (Builtin.«enumerate.__new__» ⟨[.type "enumerate", v], []⟩) (fun _ R s => G s.heap ∧
      R (.ok (.ret (.ref (s.heap.push o).objs.size))) { s with heap := (s.heap.push o).push { cls := .type "enumerate", data := .fields #[.none, .bool false, .ref s.heap.objs.size, rawInt 0, .none, .none] } }) :=
  .of_wp fun prog w A R s hh => by
    obtain ⟨hp, g, d, tk, os⟩ := s
    obtain ⟨h1, hr⟩ := hh
    have sub := sub_enumerate
    have step : ∀ {A' : Around} {E : Value → Shared → Prop} {Q : Value → Shared → Prop}, Q (.ref hp.objs.size) ⟨hp.push o, g, d, tk, os⟩ → wpAny (model prog w) A' (pyIter v) Q E ⟨hp, g, d, tk, os⟩ :=
      fun z => B.iter prog w _ _ ⟨hp, g, d, tk, os⟩ _ h1 z
    wp_walk using step
    refine wpAny_stack_any fun stk => wpAny_pure ?_
    split
    · rename_i c1 _ _ _ _ _
      cases (c1 == Value.type "enumerate") <;> (wp_walk using step; exact ⟨_, rfl, hr⟩)
    · wp_walk using step
      exact ⟨_, rfl, hr⟩
theorem call_enumT {prog : Program} {w : World} {A : Around} {E : Value → Shared → Prop} {s : Shared} {v : Value} {o : Obj} {G : Heap → Prop} {Q : Value → Shared → Prop} (B : Begins v o G) (h1 : G s.heap)
    (h : ∀ h', IsEnum h' (s.heap.objs.size + 1) s.heap.objs.size 0 .none → h'.get? s.heap.objs.size = some o →
      (∀ b u, s.heap.get? b = some u → h'.get? b = some u) → Q (.ref (s.heap.objs.size + 1)) { s with heap := h' }) :
    wpAny (model prog w) A (call (.type "enumerate") [v]) Q E s := by
  refine callType_new F.called_enumerate (by decide) (F.typeCall_enumerate_1 _) (F.newCall_enumerate_1 _) (fun ob => F.args_object_init_2 ob _) F.entry_enumerate_new (enumT_new B) ⟨h1, ?_⟩
  have size : (s.heap.push o).objs.size = s.heap.objs.size + 1 := Heap.size_push ..
  show _ ∧ _
  rw [size]
  have e1 : IsEnum ((s.heap.push o).push { cls := .type "enumerate", data := .fields #[.none, .bool false, .ref s.heap.objs.size, rawInt 0, .none, .none] }) (s.heap.objs.size + 1) s.heap.objs.size 0 .none := by
    have w1 := Heap.get?_push_size (s.heap.push o) (o := { cls := .type "enumerate", data := .fields #[.none, .bool false, .ref s.heap.objs.size, rawInt 0, .none, .none] }) rfl
    rw [size] at w1
    exact w1
  exact ⟨⟨_, e1, rfl⟩, h _ e1 (Heap.get?_push_of_some _ (Heap.get?_push_size _ B.free)) fun b u x => Heap.get?_push_of_some _ (Heap.get?_push_of_some _ x)⟩
theorem enumT_end {prog : Program} {w : World} {A : Around} {E : Value → Shared → Prop} {s : Shared} {e it t : Addr} {i : Nat} {k : Int} {items : Array Value} {old : Value} {Q : Option Value → Shared → Prop} (hh : A.handled = none) (he : IsEnum s.heap e it k old) (hit : s.heap.IsTupleIter it t i) (ht : s.heap.IsTuple t items) (hx : items[i]? = none)
    (hQ : ∀ h', Heap.ExtBut it s.heap h' → Q none { s with heap := h' }) : wpAny (model prog w) A (pyNext (.ref e)) Q E s := by
  have ty : s.TypeIs (.ref e) "enumerate" := ⟨_, he, rfl⟩
  unfold pyNext
  refine wpAny_bind (wpAny_attempt (wpAny_callSpecial?_slot (name := Str.ofString "__next__") ty F.slot_enumerate_next (wpAny_call_entry F.slot_enumerate_next ty F.entry_enumerate_next ?_ (F.args_enumerate_next_1 _))))
  show wpAny _ _ (field (.ref e) 2 >>= _) _ _ _
  refine wpAny_bind (wpAny_field he rfl (x := .ref it) rfl (wpAny_bind (wpAny_nextOf_tuple_end hh hit ht hx fun h2 x e2 x2 => ?_)))
  obtain ⟨u, u1, u2⟩ := x2
  exact wpAny_bind (wpAny_isInstance (T := "StopIteration") (b := true) ⟨u, u1, u2⟩ isSubtype_stop (wpAny_pure (hQ _ e2)))
def IteT (K : PySem.W.Frag) (a : Addr) : It :=
  ⟨fun i H => ∃ (xs : List V) (x : V), SqT K H a xs ∧ xs[i]? = some x, fun i H v H' => ∃ T x, v = .ref T ∧ H T = none ∧ H' = upd H T (.tup [.int (i : Nat), x]) ∧ ∀ xs, SqT K H a xs → xs[i]? = some x, fun i H => ∃ xs : List V, SqT K H a xs ∧ xs.length ≤ i⟩
theorem turn_enumT {P : Program} {w : World} {K : PySem.W.Frag} {elts : List Expr} {kk : Nat} {tpos : Pos} (a e it : Addr) :
    Turn P w K (.Tuple elts kk tpos) (IteT K a) [e, it] e (fun i h => (∃ old, IsEnum h e it ((i : Nat) : Int) old) ∧ h.IsTupleIter it a i ∧ e ≠ it) where
  mem := List.mem_cons_self
  obj := fun i h st b hb => by
    obtain ⟨⟨old, h1⟩, ⟨o, h2, h3, h4⟩, _⟩ := st
    have hb : b = e ∨ b = it := by simpa using hb
    rcases hb with z | z
    · subst z; exact ⟨_, h1, fun v q => nomatch q⟩
    · subst z; exact ⟨o, h2, fun v q => by rw [h4] at q; cases q⟩
  keep := fun i h h' ⟨⟨old, h1⟩, h2, h3⟩ k => ⟨⟨old, k e (by simp) _ h1⟩, h2.at fun o q => k it (by simp) o q, h3⟩
  item := by
    intro X hP hw hK hc i pins s σ H E I hf st hg
    subst hP hw hK
    obtain ⟨⟨old, he⟩, hit, hne⟩ := st
    obtain ⟨xs, x, hq, hx⟩ := hg
    obtain ⟨its, rv, pt, _⟩ := I.tuple hq
    obtain ⟨u, hu, ru⟩ := rv.get hx
    have le : e < s.heap.objs.size := Heap.lt_size he
    have li : it < s.heap.objs.size := by obtain ⟨_, q, _⟩ := hit; exact Heap.lt_size q
    obtain ⟨ob, hob, hcls, hdat⟩ := id pt
    have ha : a ≠ it := fun z => by
      obtain ⟨o2, g1, g2, g3⟩ := hit
      rw [z] at hob
      rw [hob] at g1
      cases g1
      obtain ⟨n, hd⟩ := hdat
      rw [g3] at hd; cases hd
    have hae : e ≠ a := fun z => by
      rw [← z] at hob
      rw [he] at hob
      cases hob
      obtain ⟨n, hd⟩ := hdat
      cases hd
    have hl : i < its.toArray.size := by
      have := (List.getElem?_eq_some_iff.mp hu).1
      simpa using this
    refine wpAny_pyNext_enum_itemD (Draws.tuple (prog := X.prog) (w := X.w) (A := X.A.in1) (I.ok.hd hc) it a ha its.toArray) he ⟨hit, pt⟩ hl hne (by simp only [List.mem_cons, List.not_mem_nil, or_false, not_or]; exact ⟨hne, hae⟩) fun y h' tk hP ho hs' hT hz hk => ?_
    have ey : y = u := by
      have hP : its.toArray[i]? = some y := hP
      rw [List.getElem?_toArray, hu] at hP
      injection hP with hP
      exact hP.symm
    subst ey
    refine ⟨_, rfl, wpAny_letOwnedTupleGo_enum (s := { s with heap := h', toks := tk + 1 }) ho fun h2 he2 sb => ?_⟩
    have hT2 : h2.get? s.heap.objs.size = some { cls := .type "tuple", data := .seq #[.int i tk, y] } := (sb.2 _ (Nat.ne_of_gt le)).trans hT
    have new : ObjOk X.prog X.w (upd H s.heap.objs.size (.tup [.int (i : Nat), x])) h2 s.heap.objs.size (.tup [.int (i : Nat), x]) :=
      ⟨by show 2 ≤ sizeLine; decide, [.int i tk, y], .cons ⟨_, rfl⟩ (.cons ru .nil), ⟨_, hT2, rfl, _, rfl⟩⟩
    have I1 : Inv X pins σ (upd H s.heap.objs.size (.tup [.int (i : Nat), x])) { s with heap := h2, toks := tk + 1 } :=
      I.turnedNew (ch := [e, it]) (fun b o hb q => (sb.2 b (fun z => hb (by simp [z]))).trans (hk b o (fun z => hb (by simp [z])) (fun z => hb (by simp [z])) q)) hf (Nat.le_refl _) new
    refine ⟨.ref s.heap.objs.size, _, I1, rfl, ⟨_, x, rfl, I.hok.fresh (Nat.le_refl _), rfl, fun ys hy => by rw [I.tuple_inj hy hq]; exact hx⟩, ⟨⟨y, ?_⟩, hs'.1.at fun o q => (sb.2 it (Ne.symm hne)).trans q, hne⟩, fun b hb => ?_⟩
    · have e1 : ((i + 1 : Nat) : Int) = (i : Int) + 1 := by omega
      rw [e1]
      exact he2
    · have hb2 : b < s.heap.objs.size := by
        have hb : b = e ∨ b = it := by simpa using hb
        rcases hb with z | z <;> subst z <;> assumption
      rw [upd_ne (Nat.ne_of_lt hb2)]
      exact (hf b hb).1
  done := by
    intro X hP hw hK hc i pins s σ H E I hf st hg
    subst hP hw hK
    obtain ⟨⟨old, he⟩, hit, hne⟩ := st
    obtain ⟨xs, hq, hx⟩ := hg
    obtain ⟨its, rv, pt, _⟩ := I.tuple hq
    obtain ⟨f0, f1, f2, f3, f4, f5⟩ := hf it (by simp)
    have hl := rv.length
    obtain ⟨ob, hob, hcls, hdat⟩ := id pt
    have ha : a ≠ it := fun z => by
      obtain ⟨o2, g1, g2, g3⟩ := hit
      rw [z] at hob
      rw [hob] at g1
      cases g1
      obtain ⟨n, hd⟩ := hdat
      rw [g3] at hd; cases hd
    exact enumT_end (I.ok.hd hc) he hit pt (by simp; omega) fun h' eb => ⟨rfl, I.turned (t' := s.toks) (fun b o hb q => eb b o hb q) f0 f1 f3 f4 f5⟩
  self := fun A i s Q E st h => wpAny_pyIter_enum st.1.choose_spec h
end PD
end
section
set_option Elab.async false
set_option linter.all false
set_option maxRecDepth 100000
set_option maxHeartbeats 4000000
/-! PD12: sources of walks; list comprehensions. -/
namespace PD
open PySem PySem.Spec PyProof.Rows L2

section
variable {K : PySem.W.Frag} {X : Cx} {p : Pm} {O O' : Ow} {σ σ' : L2.St} {H H' : Hp} {s s' : PSt} {v : V} {d : PyData} {a : Addr} {e ea eb tg : Expr} {es : List Expr} {pos ppos : Pos}

theorem pie_list {pins : List (Addr × Obj)} {sh : Shared} {R : It → Hp → Prop} {E : Value → Shared → Prop} {xs : List V} (I : Inv X pins σ H sh) (h : SqL X.K H a xs) (r : R (Itl X.K a) H) : wpAny (model X.prog X.w) X.A (pyIter (.ref a)) (PIE X pins σ tg R) E sh := by
  obtain ⟨us, ru, pl, _⟩ := I.list h
  refine wpAny_pyIter_list pl.isList ⟨sh.heap.objs.size, [sh.heap.objs.size], _, _, H, rfl, ?_, turn_list a _, ⟨_, Heap.get?_push_size _ rfl, rfl, rfl⟩, fun b hb => ?_, r⟩
  · exact I.kept (t' := sh.toks) fun b o z => Heap.get?_push_of_some _ z
  · cases List.mem_singleton.mp hb
    exact I.fpOk (Nat.le_refl _) (I.hok.fresh (Nat.le_refl _))
theorem pie_tup {pins : List (Addr × Obj)} {sh : Shared} {R : It → Hp → Prop} {E : Value → Shared → Prop} {xs : List V} (I : Inv X pins σ H sh) (h : SqT X.K H a xs) (r : R (Itt X.K a) H) : wpAny (model X.prog X.w) X.A (pyIter (.ref a)) (PIE X pins σ tg R) E sh := by
  obtain ⟨us, ru, pl, _⟩ := I.tuple h
  refine wpAny_pyIter_tuple (show sh.heap.IsTuple a us.toArray from pl) ⟨sh.heap.objs.size, [sh.heap.objs.size], _, _, H, rfl, ?_, turn_tuple a _, ⟨_, Heap.get?_push_size _ rfl, rfl, rfl⟩, fun b hb => ?_, r⟩
  · exact I.kept (t' := sh.toks) fun b o z => Heap.get?_push_of_some _ z
  · cases List.mem_singleton.mp hb
    exact I.fpOk (Nat.le_refl _) (I.hok.fresh (Nat.le_refl _))
def iSeq (K : PySem.W.Frag) (tl : TE) : TI := fun σ H R => tl σ H fun x H1 => ∃ a, x = .ref a ∧ ((∃ xs, SqL K H1 a xs ∧ R (Itl K a) H1) ∨ ∃ xs, SqT K H1 a xs ∧ R (Itt K a) H1)
theorem pi_seq {tl : TE} (h : PE X e tl) : PI X tg e (iSeq X.K tl) := ⟨fun pins sh σ H R I q => by
  refine thn (h.run pins sh σ H _ I q) fun v s1 ⟨x, H1, I1, r1, b, ex, q1⟩ => ?_
  subst ex
  cases r1
  rcases q1 with ⟨xs, h1, h2⟩ | ⟨xs, h1, h2⟩
  · exact pie_list I1 h1 h2
  · exact pie_tup I1 h1 h2⟩
@[simp] def tWk (t : PTE) : PTI := fun s Q => t s fun d s' => ∃ ds, (d = .list ds ∨ d = .tuple ds) ∧ Q ds s'
theorem di_seq {t : PTE} (h : DE X e t) : DI X false tg e (tWk t) :=
  ⟨PI.weak (pi_seq h.pe) fun σ H R ⟨p, O, s, r, q⟩ => ⟨p, O, s, r, h.mono _ _ _ (fun d s' ⟨ds, ed, k⟩ v O' H' r' kp av => by
      rcases ed with z | z <;> subst z <;> cases av
      · rename_i b xs h1 h2
        exact ⟨b, rfl, .inl ⟨xs, h1.sq, k _ _ _ r' kp (it_list fun O2 H2 g => ⟨(g.1.sqL h1).2, h2.to g.1⟩)⟩⟩
      · rename_i b xs h1 h2
        exact ⟨b, rfl, .inr ⟨xs, h1.sq, k _ _ _ r' kp (it_tup fun O2 H2 g => ⟨g.1.sqT h1, h2.to g.1⟩)⟩⟩) q⟩,
    fun s Q Q' w q => h.mono _ _ _ (fun d s' ⟨ds, ed, k⟩ => ⟨ds, ed, w _ _ k⟩) q⟩
/-- a list that a name holds, walked while it stands -/
@[simp] def tWkL (t : PTL) : PTI := fun s Q => t s fun r s' => ∃ d ds, rd s' r = some d ∧ (d = .list ds ∨ d = .tuple ds) ∧ Q ds s'
theorem Rl.readH {r : Rv} (R : Rl K p O σ H s) (h : RvOk K p O σ H (.ref a) r) (e : rd s r = some d) : p.ha ≠ some a := by
  cases r with
  | c d' =>
    injection e with e
    subst e
    intro z
    have ho := (R.hand a z).1
    have h : At K O H (.ref a) d' := h
    cases h with
    | lst h1 _ => exact h1.1 ho
    | tup h1 _ => exact h1.1 ho
    | dicK h1 _ _ => exact h1 ho
    | dicT h1 _ _ => exact h1 ho
  | s i =>
    have h : σ[i]? = some (some (.ref a)) := h
    have e : s.G[i]?.bind Sl.data = some d := e
    cases q : s.G[i]? with
    | none => rw [q] at e; cases e
    | some S =>
      rw [q] at e
      have z := R.sl i S q
      rw [h] at z
      cases S with
      | no => cases e
      | v d' =>
        obtain ⟨y, e1, e2⟩ := z
        cases e1
        intro z
        have ho := (R.hand a z).1
        cases e2 with
        | lst h1 _ => exact h1.1 ho
        | tup h1 _ => exact h1.1 ho
        | dicK h1 _ _ => exact h1 ho
        | dicT h1 _ _ => exact h1 ho
      | m d' => obtain ⟨y, e1, _, _, e2, _⟩ := z; cases e1; exact e2
      | b d' => obtain ⟨y, e1, _, e2, _⟩ := z; cases e1; exact e2
      | h => cases e
theorem di_seqL {t : PTL} (h : DL X e t) : DI X true tg e (tWkL t) :=
  ⟨PI.weak (pi_seq h.pe) fun σ H R ⟨p, O, s, r, q⟩ => ⟨p, O, s, r, h.mono _ _ _ (fun x s' ⟨d, ds, er, ed, k⟩ v O' H' r' kp av => by
      have ae := r'.read av er
      rcases ed with z | z <;> subst z
      · obtain ⟨b, xs, ev, h1, h2⟩ := ae.lst
        subst ev
        have hh := r'.readH av er
        exact ⟨b, rfl, .inl ⟨xs, SqL.of h1, k _ _ _ r' kp (it_list fun O2 H2 g => ⟨g.2 rfl _ _ h1 hh, h2.to g.1⟩)⟩⟩
      · obtain ⟨b, xs, ev, h1, h2⟩ := ae.tup
        subst ev
        exact ⟨b, rfl, .inr ⟨xs, h1.sq, k _ _ _ r' kp (it_tup fun O2 H2 g => ⟨g.1.sqT h1, h2.to g.1⟩)⟩⟩) q⟩,
    fun s Q Q' w q => h.mono _ _ _ (fun x s' ⟨d, ds, er, ed, k⟩ => ⟨d, ds, er, ed, w _ _ k⟩) q⟩
def rngD (lo : Int) (n : Nat) : List PyData := (List.range n).map fun i => .int (lo + (i : Nat))
@[simp] def tRg1 (t : PTA) : PTI := fun s Q => t s fun ds s' => ∃ n : Int, ds = [.int n] ∧ -(2 ^ 62) ≤ n ∧ n < 2 ^ 62 ∧ Q (rngD 0 n.toNat) s'
theorem di_rng1 {t : PTA} (hg : Gl X "range") (hm : X.mg "range" = none) (h : DA X [e] t) (hs : starEach [e] X.env = [(false, eval e X.env)] := by rfl) : DI X false tg (.Call (.Name "range" ppos) [e] [] pos) (tRg1 t) :=
  ⟨PI.weak (pi_range1 hg hm h.pa hs) fun σ H R ⟨p, O, s, r, q⟩ => ⟨p, O, s, r, h.mono _ _ _ (fun ds s' ⟨n, ed, h1, h2, k⟩ vs O' H' r' kp av => by
      subst ed
      cases av with
      | cons a1 a2 =>
        cases a2; cases a1
        exact ⟨n, rfl, h1, h2, k _ _ _ r' kp it_rng⟩) q⟩,
    fun s Q Q' w q => h.mono _ _ _ (fun ds s' ⟨n, ed, h1, h2, k⟩ => ⟨n, ed, h1, h2, w _ _ k⟩) q⟩
@[simp] def tRg2 (t : PTA) : PTI := fun s Q => t s fun ds s' => ∃ m n : Int, ds = [.int m, .int n] ∧ (-(2 ^ 62) ≤ m ∧ m < 2 ^ 62 ∧ -(2 ^ 62) ≤ n ∧ n < 2 ^ 62) ∧ Q (rngD m (n - m).toNat) s'
theorem di_rng2 {t : PTA} (hg : Gl X "range") (hm : X.mg "range" = none) (h : DA X [e, ea] t) (hs : starEach [e, ea] X.env = [(false, eval e X.env), (false, eval ea X.env)] := by rfl) (hs2 : starEach [ea] X.env = [(false, eval ea X.env)] := by rfl) : DI X false tg (.Call (.Name "range" ppos) [e, ea] [] pos) (tRg2 t) :=
  ⟨PI.weak (pi_range2 hg hm h.pa hs hs2) fun σ H R ⟨p, O, s, r, q⟩ => ⟨p, O, s, r, h.mono _ _ _ (fun ds s' ⟨m, n, ed, h1, k⟩ vs O' H' r' kp av => by
      subst ed
      cases av with
      | cons a1 a2 =>
        cases a2 with
        | cons a2 a3 =>
          cases a3; cases a1; cases a2
          exact ⟨m, n, rfl, h1, k _ _ _ r' kp it_rng⟩) q⟩,
    fun s Q Q' w q => h.mono _ _ _ (fun ds s' ⟨m, n, ed, h1, k⟩ => ⟨m, n, ed, h1, w _ _ k⟩) q⟩
/-- enumerate of a list or a tuple -/
def iEn (K : PySem.W.Frag) (ta : TA) : TI := fun σ H R => ta σ H fun vs H1 => ∃ a xs, vs = [.ref a] ∧ ((SqL K H1 a xs ∧ R (Ite K a) H1) ∨ (SqT K H1 a xs ∧ R (IteT K a) H1))
theorem pi_en {ta : TA} {elts : List Expr} {kk : Nat} {tpos : Pos} (hg : Gl X "enumerate") (hm : X.mg "enumerate" = none) (ha : PA X [e] ta) (hs : starEach [e] X.env = [(false, eval e X.env)] := by rfl) :
    PI X (.Tuple elts kk tpos) (.Call (.Name "enumerate" ppos) [e] [] pos) (iEn X.K ta) := by
  refine ⟨fun pins sh σ H R I h => ?_⟩
  refine Call_ (ld_blt I hg hm boot_enumerate (PyProof.Rows.callWith_type1 (thn (ha.run pos pins sh σ H _ I h) fun us s1 ⟨vs, H1, I1, r1, b, xs, ev, q⟩ => ?_) hs rfl))
  subst ev
  cases r1 with
  | cons r rr =>
    cases rr
    cases r
    have fresh : ∀ c ∈ [s1.heap.objs.size + 1, s1.heap.objs.size], FpOk X pins H1 c := fun c hc => by
      have hc : c = s1.heap.objs.size + 1 ∨ c = s1.heap.objs.size := by simpa using hc
      have le : s1.heap.objs.size ≤ c := by rcases hc with z | z <;> omega
      exact I1.fpOk le (I1.hok.fresh le)
    rcases q with ⟨hq, q⟩ | ⟨hq, q⟩
    · obtain ⟨its, rv, pl, _⟩ := I1.list hq
      exact call_enumerate_list pl.isList fun h' h1 h2 _ k => wpAny_pyIter_enum h1 ⟨s1.heap.objs.size + 1, [s1.heap.objs.size + 1, s1.heap.objs.size], _, _, H1, rfl, I1.kept (t' := s1.toks) k, turn_enum b _ _, ⟨⟨.none, h1⟩, h2, Nat.succ_ne_self _⟩, fresh, q⟩
    · obtain ⟨its, rv, pl, _⟩ := I1.tuple hq
      exact call_enumT (begins_tuple b its.toArray) pl fun h' h1 h2 k => wpAny_pyIter_enum h1 ⟨s1.heap.objs.size + 1, [s1.heap.objs.size + 1, s1.heap.objs.size], _, _, H1, rfl, I1.kept (t' := s1.toks) k, turn_enumT b _ _, ⟨⟨.none, h1⟩, ⟨_, h2, rfl, rfl⟩, Nat.succ_ne_self _⟩, fresh, q⟩
theorem it_enumT {G : Ow → Hp → Prop} {xs : List V} {ds : List PyData} (h : ∀ O H, G O H → SqTo O H a xs ∧ AtL K O H xs ds) : ItOk K G (IteT K a) (enumD ds) where
  go i O H g hi := by
    obtain ⟨h1, h2⟩ := h O H g
    exact ⟨xs, _, h1.sq, List.getElem?_eq_getElem (by rw [h2.len]; simpa [enumD] using hi)⟩
  stop i O H g hi := by
    obtain ⟨h1, h2⟩ := h O H g
    exact ⟨xs, h1.sq, by rw [h2.len]; simpa [enumD] using hi⟩
  yld i O H x H' d g hdm hd y := by
    obtain ⟨T, v, e1, hT, e2, y⟩ := y
    subst e1 e2
    obtain ⟨h1, h2⟩ := h O H g
    have y := y xs h1.sq
    obtain ⟨w, w1, w2⟩ := h2.get y
    have hd : (ds.mapIdx fun i d => PyData.tuple [.int (i : Nat), d])[i]? = some d := hd
    rw [List.getElem?_mapIdx, w1] at hd
    cases hd
    exact ⟨.inr ⟨T, _, hT, rfl⟩, at_pair hdm hT (.int _) w2⟩
@[simp] def tEn (t : PTA) : PTI := fun s Q => t s fun ds s' => ∃ d xs, ds = [d] ∧ (d = .list xs ∨ d = .tuple xs) ∧ Q (enumD xs) s'
theorem di_enum {t : PTA} {elts : List Expr} {kk : Nat} {tpos : Pos} (hg : Gl X "enumerate") (hm : X.mg "enumerate" = none) (h : DA X [e] t) (hs : starEach [e] X.env = [(false, eval e X.env)] := by rfl) :
    DI X false (.Tuple elts kk tpos) (.Call (.Name "enumerate" ppos) [e] [] pos) (tEn t) :=
  ⟨PI.weak (pi_en hg hm h.pa hs) fun σ H R ⟨p, O, s, r, q⟩ => ⟨p, O, s, r, h.mono _ _ _ (fun ds s' ⟨d, xs, ed, ex, k⟩ vs O' H' r' kp av => by
      subst ed
      cases av with
      | cons a1 a2 =>
        cases a2
        rcases ex with z | z <;> subst z <;> cases a1
        · rename_i b ys h1 h2
          exact ⟨b, ys, rfl, .inl ⟨h1.sq, k _ _ _ r' kp (it_enum fun O2 H2 g => ⟨(g.1.sqL h1).2, h2.to g.1⟩)⟩⟩
        · rename_i b ys h1 h2
          exact ⟨b, ys, rfl, .inr ⟨h1.sq, k _ _ _ r' kp (it_enumT fun O2 H2 g => ⟨g.1.sqT h1, h2.to g.1⟩)⟩⟩) q⟩,
    fun s Q Q' w q => h.mono _ _ _ (fun ds s' ⟨d, xs, ed, ex, k⟩ => ⟨d, xs, ed, ex, w _ _ k⟩) q⟩
@[simp] def tZp (t : PTA) : PTI := fun s Q => t s fun ds s' => ∃ xs ys, (ds = [.list xs, .list ys] ∨ ds = [.tuple xs, .tuple ys]) ∧ Q (zipD xs ys) s'
theorem di_zip {t : PTA} {elts : List Expr} {kk : Nat} {tpos : Pos} (hg : Gl X "zip") (hm : X.mg "zip" = none) (h : DA X [e, ea] t) (hs : starEach [e, ea] X.env = (false, eval e X.env) :: starEach [ea] X.env := by rfl) (hpl : (backTo pos (starEach [ea] X.env)).any (·.1) = false := by rfl) :
    DI X false (.Tuple elts kk tpos) (.Call (.Name "zip" ppos) [e, ea] [] pos) (tZp t) :=
  ⟨PI.weak (RZ.pi_zipA hg hm h.pa hs hpl) fun σ H R ⟨p, O, s, r, q⟩ => ⟨p, O, s, r, h.mono _ _ _ (fun ds s' ⟨xs, ys, ed, k⟩ vs O' H' r' kp av => by
      rcases ed with ed | ed
      · subst ed
        cases av with
        | cons a1 a2 =>
          cases a2 with
          | cons a2 a3 =>
            cases a3; cases a1; cases a2
            rename_i b xs h1 h2 c ys h3 h4
            exact ⟨_, _, _, _, rfl, .inl ⟨h1.sq, h3.sq, k _ _ _ r' kp (it_zipL fun O2 H2 g => ⟨⟨(g.1.sqL h1).2, h2.to g.1⟩, (g.1.sqL h3).2, h4.to g.1⟩)⟩⟩
      · subst ed
        cases av with
        | cons a1 a2 =>
          cases a2 with
          | cons a2 a3 =>
            cases a3; cases a1; cases a2
            rename_i b xs h1 h2 c ys h3 h4
            exact ⟨_, _, _, _, rfl, .inr ⟨h1.sq, h3.sq, k _ _ _ r' kp (it_zipT fun O2 H2 g => ⟨⟨g.1.sqT h1, h2.to g.1⟩, g.1.sqT h3, h4.to g.1⟩)⟩⟩) q⟩,
    fun s Q Q' w q => h.mono _ _ _ (fun ds s' ⟨xs, ys, ed, k⟩ => ⟨xs, ys, ed, w _ _ k⟩) q⟩
end
end PD
end
section
set_option Elab.async false
set_option linter.all false
set_option maxRecDepth 100000
set_option maxHeartbeats 4000000
/-! PD13: list comprehensions. -/
namespace PD
open PySem PySem.Spec PyProof.Rows L2

section
variable {K : PySem.W.Frag} {X : Cx} {p : Pm} {O O' : Ow} {σ σ' : L2.St} {H H' : Hp} {s s' : PSt} {v : V} {d : PyData} {a : Addr} {e ea eb tg : Expr} {es : List Expr} {pos ppos : Pos}

theorem wipe_in {i : Nat} : ∀ {vs : List Nat}, i ∈ vs → (L2.wipe σ vs)[i]? = σ[i]?.map fun _ => none
  | w :: ws, h => by
    show ((L2.wipe σ ws).set w none)[i]? = _
    by_cases z : w = i
    · subst z
      rw [List.getElem?_set]
      simp only [if_true]
      rw [L2.wipe_length]
      by_cases q : w < σ.length
      · rw [if_pos q, List.getElem?_eq_getElem q]; rfl
      · rw [if_neg q, List.getElem?_eq_none (by omega)]; rfl
    · rw [List.getElem?_set_ne z]
      exact wipe_in ((List.mem_cons.mp h).resolve_left fun y => z y.symm)
theorem wipe_idem (vs : List Nat) : L2.wipe (L2.wipe σ vs) vs = L2.wipe σ vs := by
  apply List.ext_getElem?
  intro i
  by_cases h : i ∈ vs
  · rw [wipe_in h, wipe_in h]
    cases σ[i]? <;> rfl
  · rw [wipe_get h]
/-- an owned place that no slot knows, with another content -/
theorem Rl.putD {D : Addr} {o : HO} (R : Rl K p O σ H s) (hO : O D) (h0 : p.H0 D = none) (hh : p.ha ≠ some D) (hm : ∀ (i : Nat) (d' : PyData), s.G[i]? = some (.m d') → σ[i]? ≠ some (some (.ref D))) :
    Rl K p O σ (upd H D o) s ∧ Kp O H O (upd H D o) := by
  have k : Kp O H O (upd H D o) := ⟨fun a u e n => by rw [upd_ne fun z => n (by rw [z]; exact hO)]; exact e, fun _ n _ => n⟩
  refine ⟨⟨R.len, fun i S e => ?_, R.inj, fun a e => ?_, fun a u e n => ?_, fun a z => ?_, R.o0, R.od, R.ob⟩, k⟩
  · have q := R.sl i S e
    cases S with
    | no => trivial
    | v d => obtain ⟨y, e1, e2⟩ := q; exact ⟨y, e1, e2.to k⟩
    | m d =>
      obtain ⟨b, e1, e2, e3, e4, e5⟩ := q
      exact ⟨b, e1, e2, e3, e4, e5.to k (upd_ne fun z => hm i d e (by rw [e1, z]))⟩
    | b d =>
      obtain ⟨b, e1, e2, e3, e4⟩ := q
      exact ⟨b, e1, e2, e3, e4.to k (upd_ne fun z => e2 (by rw [z]; exact h0))⟩
    | h => exact q
  · obtain ⟨e1, xs, e2, e3⟩ := R.hand a e
    exact ⟨e1, xs, by rw [upd_ne fun z => hh (by rw [← z]; exact e)]; exact e2, e3.to k⟩
  · rw [upd_ne fun z => by rw [z, h0] at e; cases e]
    exact R.frm a u e n
  · by_cases z' : a = D
    · rw [z', upd_same]; exact fun z => nomatch z
    · rw [upd_ne z']; exact R.dom a z
/-- a clause's tests -/
structure DTs (X : Cx) (ifs : List Expr) (t : PTT) : Prop where
  pt : PTs X ifs (liftT X.K t)
  mono : MonoT t
@[simp] def tYs : PTT := fun s Q => Q true s
theorem dts_nil : DTs X [] tYs := ⟨⟨fun pins sh σ H Q I ⟨p, O, s, R, q⟩ => pts_nil.run pins sh σ H Q I (q O H R .refl)⟩, fun s Q Q' w q => w _ _ q⟩
theorem dts_one {t : PTT} (h : DT X e t) : DTs X [e] t := ⟨pts_one h.pt, h.mono⟩
/-- the turns of a comprehension -/
def cRun (g : PTG) (tt : PTT) (te : PTE) (vs : List Nat) (G : List Sl) : List PyData → List PyData → List PyData → (List PyData → List PyData → Prop) → Prop
  | [], out, hd, Q => Q out hd
  | d :: ds, out, hd, Q => g d ⟨blkG G vs, hd⟩ fun s1 => tt s1 fun b s2 => if b = true then te s2 fun y s3 => cRun g tt te vs G ds (out ++ [y]) s3.hd Q else cRun g tt te vs G ds out s2.hd Q
theorem cRun_mono {g : PTG} {tt : PTT} {te : PTE} {vs : List Nat} {G : List Sl} (hg : ∀ d s Q Q', (∀ s', Q s' → Q' s') → g d s Q → g d s Q') (ht : MonoT tt) (he : Mono te) {Q Q' : List PyData → List PyData → Prop} (w : ∀ o h, Q o h → Q' o h) :
    ∀ (ds out hd : List PyData), cRun g tt te vs G ds out hd Q → cRun g tt te vs G ds out hd Q'
  | [], _, _, q => w _ _ q
  | d :: ds, out, hd, q => hg _ _ _ _ (fun s1 => ht _ _ _ fun b s2 q => by
      cases b with
      | true => exact he _ _ _ (fun y s3 => cRun_mono hg ht he w ds _ _) q
      | false => exact cRun_mono hg ht he w ds _ _ q) q
@[simp] def tComp (ti : PTI) (g : PTG) (tt : PTT) (te : PTE) (vs : List Nat) : PTE := fun s Q => ti s fun items s1 => items.length ≤ sizeLine ∧ cRun g tt te vs s1.G items [] s1.hd fun out hd => Q (.list out) { s1 with hd := hd }
/-- in every block of the scope -/
abbrev Blk (X : Cx) (scope : Scope) (P : Cx → Prop) : Prop := ∀ (s : Shared) (H : Hp) (C : Addr) (cl : List (Str × Addr)) (fp : List Addr), P (X.blk s H scope (compEnvC scope cl C X.env) fp)
variable {iter elt : Expr} {ifs : List Expr} {scope : Scope} {own : List (Str × Nat)}
theorem lc_read {ti : PTI} {g : PTG} {tt : PTT} {te : PTE} {vs ws : List Nat} {Q : VK} (hi : ∀ s Q Q', (∀ d s', Q d s' → Q' d s') → ti s Q → ti s Q') (hg : ∀ d s Q Q', (∀ s', Q s' → Q' s') → g d s Q → g d s Q') (ht : MonoT tt) (he : Mono te)
    (hw : ∀ w ∈ ws, w ∈ vs) (h : liftF K (tComp ti g tt te vs) σ H Q) : tLc (liftI K true ti) (liftG K ws g) (liftT K tt) (lift K te) vs σ H Q := by
  obtain ⟨p, O, s, R, q⟩ := h
  refine ⟨p, O, s, R, hi _ _ _ (fun items s1 ⟨hsz, q1⟩ J O1 H1 R1 k1 it D hD => ?_) q⟩
  obtain ⟨f0, fh, fm⟩ := R1.fresh hD
  generalize hF : (fun out hd => ∀ a O' H', Rl K p O' σ H' { s1 with hd := hd } → Kp O H O' H' → Lone K p O' σ H' { s1 with hd := hd } a (.list out) → Q (.ref a) H' : List PyData → List PyData → Prop) = F at q1
  let S : Nat → Hp → Prop := fun i H => ∃ O2 out acc hd, Rl K p O2 σ H { s1 with hd := hd } ∧ Stand true p O1 H1 O2 H ∧ O2 D ∧ H D = some (.lst acc) ∧ AtL K O2 H acc out ∧ out.length ≤ i ∧ cRun g tt te vs s1.G (items.drop i) out hd F
  refine ⟨fun i m H => m = items.length - i ∧ i ≤ items.length ∧ S i H, ⟨items.length, by simp, Nat.zero_le _, O1.with D, [], [], s1.hd, R1.newOwn hD, ⟨Kp.newOwn hD, fun _ a o e n => ?_⟩, .inr rfl, upd_same, .nil, Nat.le_refl _, q1⟩, ?_⟩
  · rw [upd_ne fun z => by rw [z, hD] at e; cases e]; exact e
  · rintro i m H2 ⟨rfl, hle, O2, out, acc, hd, R2, st, oD, eD, al, ol, c⟩
    by_cases hlt : i < items.length
    · refine .inr ⟨it.go i O2 H2 st hlt, S (i + 1), fun H' w => ⟨items.length - (i + 1), by omega, rfl, hlt, w⟩, fun x H3 y => ?_⟩
      obtain ⟨alt, ax⟩ := it.yld i O2 H2 x H3 items[i] st R2.dom (List.getElem?_eq_getElem hlt) y
      have step : Rl K p O2 σ H3 { s1 with hd := hd } ∧ Kp O2 H2 O2 H3 ∧ ∀ a o, H2 a = some o → H3 a = some o := by
        rcases alt with z | ⟨b, o, hb, z⟩
        · subst z; exact ⟨R2, .refl, fun _ _ h => h⟩
        · subst z
          exact ⟨R2.new hb, Kp.new hb, fun a u e => by rw [upd_ne fun z => by rw [z, hb] at e; cases e]; exact e⟩
      obtain ⟨R3, k3, st3⟩ := step
      rw [List.drop_eq_getElem_cons hlt] at c
      have RB := R3.into vs
      -- behind the turn
      have fin : ∀ {O4 σ4 H4} {s4 : PSt}, Rl K ⟨p.ha, H3, O2⟩ O4 σ4 H4 s4 → Kp O2 H3 O4 H4 → Rl K p O4 σ H4 { s1 with hd := s4.hd } ∧ Stand true p O1 H1 O4 H4 ∧ O4 D ∧ H4 D = some (.lst acc) ∧ AtL K O4 H4 acc out := fun {O4 σ4 H4 s4} R4 k4 =>
        ⟨R3.back R4 k4, ⟨st.1.trans (k3.trans k4), fun _ a o e n => R4.frm a o (st3 a o (st.2 rfl a o e n)) n⟩, R4.o0 D oD, R4.frm D _ (st3 D _ eD) fh, al.to (k3.trans k4)⟩
      refine ⟨⟨p.ha, H3, O2⟩, O2, _, items[i], RB, ax, hg _ _ _ _ (fun sA qA σA RA uA => ⟨by rw [uA vs hw, wipe_idem], ⟨p.ha, H3, O2⟩, O2, sA, RA, ht _ _ _ (fun b sB qB O4 H4 R4 k4 => ?_) qA⟩) c⟩
      cases b with
      | true =>
        refine ⟨⟨p.ha, H3, O2⟩, O4, sB, R4, he _ _ _ (fun y sC qC u O5 H5 R5 k5 au => ?_) qB⟩
        obtain ⟨g1, g2, g3, g4, g5⟩ := fin R5 (k4.trans k5)
        obtain ⟨R6, k6⟩ := g1.putD (o := .lst (acc ++ [u])) g3 f0 fh fm
        refine ⟨acc, g4, by rw [g5.len]; omega, O5, out ++ [y], acc ++ [u], sC.hd, R6, ⟨g2.1.trans k6, fun _ a o e n => ?_⟩, g3, upd_same, (g5.to k6).append (.cons (au.to k6) .nil), by rw [List.length_append]; simp; exact ol, qC⟩
        rw [upd_ne fun z => by rw [z, hD] at e; cases e]
        exact g2.2 rfl a o e n
      | false =>
        obtain ⟨g1, g2, g3, g4, g5⟩ := fin R4 k4
        exact ⟨O4, out, acc, sB.hd, g1, g2, g3, g4, g5, Nat.le_succ_of_le ol, qB⟩
    · have ei : i = items.length := by omega
      subst ei
      rw [List.drop_length] at c
      refine .inl ⟨it.stop _ O2 H2 st (Nat.le_refl _), ?_⟩
      subst hF
      exact c D O2 H2 R2 (k1.trans st.1) ⟨oD, f0, fh, .lst eD al, fm⟩
theorem mono_comp {ti : PTI} {g : PTG} {tt : PTT} {te : PTE} {vs : List Nat} (hi : ∀ s Q Q', (∀ d s', Q d s' → Q' d s') → ti s Q → ti s Q') (hg : ∀ d s Q Q', (∀ s', Q s' → Q' s') → g d s Q → g d s Q') (ht : MonoT tt) (he : Mono te) : Mono (tComp ti g tt te vs) :=
  fun s Q Q' w q => hi _ _ _ (fun items s1 ⟨z, q⟩ => ⟨z, cRun_mono hg ht he (fun o h => w _ _) _ _ _ q⟩) q
theorem df_lc {ti : PTI} {g : PTG} {tt : PTT} {te : PTE} {ws : List Nat} (hc : X.calm = true) (hN : X.N.Nodup) (hi : DI X true tg iter ti) (ok : BlkOk X.N X.env.scope scope own)
    (hg : Blk X scope fun Y => DG Y tg ws g) (ht : Blk X scope fun Y => DTs Y ifs tt) (he : Blk X scope fun Y => DE Y elt te) (hw : ∀ w ∈ ws, w ∈ own.map (·.2)) (hs : ∀ x, foldedSetIterable iter X.env x = pure x := by intro _; rfl) :
    DF X (.ListComp elt [⟨tg, iter, ifs, 0⟩] scope pos) (tComp ti g tt te (own.map (·.2))) := by
  have h0 := hg X.s_0 X.H_0 0 [] []
  have h1 := ht X.s_0 X.H_0 0 [] []
  have h2 := he X.s_0 X.H_0 0 [] []
  exact ⟨PE.weak (pe_lc hc hN hi.pi ok (fun s H C cl fp => (hg s H C cl fp).pg) (fun s H C cl fp => (ht s H C cl fp).pt) (fun s H C cl fp => (he s H C cl fp).pe) hs) fun σ H Q q => lc_read hi.mono h0.mono h1.mono h2.mono hw q, mono_comp hi.mono h0.mono h1.mono h2.mono⟩
end
end PD
end
section
set_option Elab.async false
set_option linter.all false
set_option maxRecDepth 100000
set_option maxHeartbeats 4000000
/-! PD14: statements. -/
namespace PD
open PySem PySem.Spec PyProof.Rows L2

/-- a value: fr: new and held by nothing -/
def Val (K : PySem.W.Frag) (p : Pm) (O : Ow) (σ : L2.St) (H : Hp) (s : PSt) (fr : Bool) (v : V) (d : PyData) : Prop := if fr = true then ∃ a, v = .ref a ∧ Lone K p O σ H s a d else At K O H v d
def liftX (K : PySem.W.Frag) (fr : Bool) (t : PTE) : TE := fun σ H QV => ∃ p O s, Rl K p O σ H s ∧ t s fun d s' => ∀ v O' H', Rl K p O' σ H' s' → Kp O H O' H' → Val K p O' σ H' s' fr v d → QV v H'
structure DX (X : Cx) (fr : Bool) (e : Expr) (t : PTE) : Prop where
  pe : PE X e (liftX X.K fr t)
  mono : Mono t
@[simp] def Sl.of (fr : Bool) (d : PyData) : Sl := if fr = true then .m d else .v d

/-- how a body ends -/
structure PEnds where
  nx : PSt → Prop
  rt : Bool → PyData → PSt → Prop
  bk : PSt → Prop
  ct : PSt → Prop
structure PEnds.Le (E E' : PEnds) : Prop where
  nx : ∀ s, E.nx s → E'.nx s
  rt : ∀ b d s, E.rt b d s → E'.rt b d s
  bk : ∀ s, E.bk s → E'.bk s
  ct : ∀ s, E.ct s → E'.ct s
abbrev PTS := PEnds → PSt → Prop
def MonoS (t : PTS) : Prop := ∀ s E E', PEnds.Le E E' → t E s → t E' s
def goes (K : PySem.W.Frag) (p : Pm) (O : Ow) (H : Hp) (F : L2.St → Hp → Prop) : PSt → Prop := fun s' => ∀ σ' O' H', Rl K p O' σ' H' s' → Kp O H O' H' → F σ' H'
def endsOf (K : PySem.W.Frag) (p : Pm) (O : Ow) (H : Hp) (D : Ends) : PEnds :=
  ⟨goes K p O H D.nx, fun fr d s' => ∀ v σ' O' H', Rl K p O' σ' H' s' → Kp O H O' H' → Val K p O' σ' H' s' fr v d → D.rt v H', goes K p O H D.bk, goes K p O H D.ct⟩
def liftS (K : PySem.W.Frag) (t : PTS) : TS := fun D σ H => ∃ p O s, Rl K p O σ H s ∧ t (endsOf K p O H D) s
structure DS (X : Cx) (st : Stmt) (t : PTS) : Prop where
  ps : PS X st (liftS X.K t)
  mono : MonoS t
structure DSs (X : Cx) (st : List Stmt) (t : PTS) : Prop where
  ps : PSs X st (liftS X.K t)
  mono : MonoS t

section
variable {K : PySem.W.Frag} {X : Cx} {p : Pm} {O O' : Ow} {σ σ' : L2.St} {H H' : Hp} {s s' : PSt} {v : V} {d : PyData} {a : Addr} {e ea eb tg : Expr} {es : List Expr} {pos ppos : Pos} {st : Stmt} {sts : List Stmt} {t u : PTS} {te ta tb : PTE} {fr : Bool}
/-- the ends of a loop's turn -/
@[simp] def PEnds.lp (E : PEnds) (N : PSt → Prop) : PEnds := ⟨N, E.rt, E.nx, N⟩
theorem PEnds.Le.lp {E E' : PEnds} {N N' : PSt → Prop} (w : PEnds.Le E E') (k : ∀ s, N s → N' s) : PEnds.Le (E.lp N) (E'.lp N') := ⟨k, w.rt, w.nx, k⟩
theorem PEnds.Le.refl {E : PEnds} : PEnds.Le E E := ⟨fun _ h => h, fun _ _ _ h => h, fun _ h => h, fun _ h => h⟩
theorem DE.x (h : DE X e te) : DX X false e te := ⟨PE.weak h.pe fun σ H Q ⟨p, O, s, r, q⟩ => ⟨p, O, s, r, h.mono _ _ _ (fun d s' k v O' H' R' k' a => k v O' H' R' k' a) q⟩, h.mono⟩
theorem DF.x (h : DF X e te) : DX X true e te := ⟨PE.weak h.pe fun σ H Q ⟨p, O, s, r, q⟩ => ⟨p, O, s, r, h.mono _ _ _ (fun d s' k a O' H' R' k' l => k _ O' H' R' k' ⟨a, rfl, l⟩) q⟩, h.mono⟩
theorem goes_to {F : L2.St → Hp → Prop} (k : Kp O H O' H') (h : goes K p O H F s) : goes K p O' H' F s := fun σ' O2 H2 R k2 => h σ' O2 H2 R (k.trans k2)
theorem endsOf_to {D : Ends} (k : Kp O H O' H') : PEnds.Le (endsOf K p O H D) (endsOf K p O' H' D) :=
  ⟨fun _ h => goes_to k h, fun _ _ _ h v σ' O2 H2 R k2 => h v σ' O2 H2 R (k.trans k2), fun _ h => goes_to k h, fun _ h => goes_to k h⟩
theorem PS.weak {t t' : TS} (h : PS X st t) (w : ∀ D σ H, t' D σ H → t D σ H) : PS X st t' := ⟨fun pins s σ H D I q => h.run pins s σ H D I (w _ _ _ q)⟩
theorem PSs.weak {t t' : TS} (h : PSs X sts t) (w : ∀ D σ H, t' D σ H → t D σ H) : PSs X sts t' := ⟨fun pins s σ H D I q => h.run pins s σ H D I (w _ _ _ q)⟩

/-! ### stores in slots -/
theorem Rl.setx {i : Nat} (R : Rl K p O σ H s) (h : Val K p O σ H s fr v d) : Rl K p O (σ.set i (some v)) H { s with G := s.G.set i (Sl.of fr d) } := by
  cases fr with
  | false => exact R.setv h
  | true =>
    obtain ⟨a, rfl, l1, l2, l3, l4, l5⟩ := h
    show Rl K p O (σ.set i (some (.ref a))) H { s with G := s.G.set i (.m d) }
    refine ⟨by rw [List.length_set, List.length_set]; exact R.len, fun j S e => ?_, fun j l d1 d2 c q1 q2 z1 z2 => ?_, R.hand, R.frm, R.dom, R.o0, R.od, R.ob⟩
    · by_cases hj : i = j
      · subst hj
        have e : (s.G.set i (.m d))[i]? = some S := e
        have hi : i < s.G.length := by
          by_cases q : i < s.G.length
          · exact q
          · rw [List.getElem?_eq_none (by rw [List.length_set]; omega)] at e; cases e
        rw [List.getElem?_set_self hi] at e; cases e
        exact ⟨a, by rw [List.getElem?_set_self (by rw [← R.len]; exact hi)], l1, l2, l3, l4⟩
      · have e : (s.G.set i (.m d))[j]? = some S := e
        rw [List.getElem?_set_ne hj] at e ⊢
        exact R.sl j S e
    · have get : ∀ (j : Nat) (d1 : PyData), (s.G.set i (.m d))[j]? = some (.m d1) → (σ.set i (some (.ref a)))[j]? = some (some (.ref c)) → (j = i ∧ c = a) ∨ (i ≠ j ∧ s.G[j]? = some (.m d1) ∧ σ[j]? = some (some (.ref c))) := fun j d1 q z => by
        by_cases hj : i = j
        · subst hj
          refine .inl ⟨rfl, ?_⟩
          rw [List.getElem?_set] at z
          simp only [if_true] at z
          split at z
          · cases z; rfl
          · cases z
        · rw [List.getElem?_set_ne hj] at q z; exact .inr ⟨hj, q, z⟩
      rcases get j d1 q1 z1 with ⟨x1, y1⟩ | ⟨x1, y1, w1⟩
      · rcases get l d2 q2 z2 with ⟨x2, y2⟩ | ⟨x2, y2, w2⟩
        · rw [x1, x2]
        · subst y1; exact absurd w2 (l5 l d2 y2)
      · rcases get l d2 q2 z2 with ⟨x2, y2⟩ | ⟨x2, y2, w2⟩
        · subst y2; exact absurd w1 (l5 j d1 y1)
        · exact R.inj j l d1 d2 c y1 y2 w1 w2

/-! ### blocks -/
@[simp] def tNx : PTS := fun E s => E.nx s
@[simp] def tSq (t u : PTS) : PTS := fun E s => t { E with nx := u E } s
theorem dss_nil : DSs X [] tNx := ⟨PSs.weak pss_nil fun D σ H ⟨p, O, s, R, q⟩ => q σ O H R .refl, fun s E E' w q => w.nx _ q⟩
theorem mono_sq (h : MonoS t) (k : MonoS u) : MonoS (tSq t u) := fun s E E' w q => h _ { E with nx := u E } { E' with nx := u E' } ⟨fun s' => k s' _ _ w, w.rt, w.bk, w.ct⟩ q
theorem dss_cons (h : DS X st t) (k : DSs X sts u) : DSs X (st :: sts) (tSq t u) :=
  ⟨PSs.weak (pss_cons h.ps k.ps) fun D σ H ⟨p, O, s, R, q⟩ => ⟨p, O, s, R, h.mono _ { endsOf X.K p O H D with nx := u (endsOf X.K p O H D) } _ ⟨fun s' q σ' O' H' R' k' => ⟨p, O', s', R', k.mono _ _ _ (endsOf_to k') q⟩, fun _ _ _ h => h, fun _ h => h, fun _ h => h⟩ q⟩, mono_sq h.mono k.mono⟩
theorem dss_never : DSs X sts fun _ _ => False := ⟨PSs.weak pss_never fun D σ H ⟨p, O, s, R, q⟩ => q, fun _ _ _ _ q => q⟩
theorem ds_never : DS X st fun _ _ => False := ⟨PS.weak ps_never fun D σ H ⟨p, O, s, R, q⟩ => q, fun _ _ _ _ q => q⟩
theorem ds_pass : DS X (.Pass pos) tNx := ⟨PS.weak ps_pass fun D σ H ⟨p, O, s, R, q⟩ => q σ O H R .refl, fun s E E' w q => w.nx _ q⟩
theorem ds_break : DS X (.Break pos) fun E s => E.bk s := ⟨PS.weak ps_break fun D σ H ⟨p, O, s, R, q⟩ => q σ O H R .refl, fun s E E' w q => w.bk _ q⟩
theorem ds_continue : DS X (.Continue pos) fun E s => E.ct s := ⟨PS.weak ps_continue fun D σ H ⟨p, O, s, R, q⟩ => q σ O H R .refl, fun s E E' w q => w.ct _ q⟩
/-! ### small statements -/
@[simp] def tEx (te : PTE) : PTS := fun E s => te s fun _ s' => E.nx s'
theorem ds_expr (h : DE X e te) (hs : swapsWith e none pos.line X.env = pure false := by rfl) : DS X (.Expr e pos) (tEx te) :=
  ⟨PS.weak (ps_expr h.pe hs) fun D σ H ⟨p, O, s, R, q⟩ => ⟨p, O, s, R, h.mono _ _ _ (fun d s' q v O' H' R' k' _ => q σ O' H' R' k') q⟩, fun s E E' w q => h.mono _ _ _ (fun d s' => w.nx _) q⟩
@[simp] def tRt (fr : Bool) (te : PTE) : PTS := fun E s => te s fun d s' => E.rt fr d s'
theorem ds_ret (h : DX X fr e te) : DS X (.Return (some e) pos) (tRt fr te) :=
  ⟨PS.weak (ps_ret h.pe) fun D σ H ⟨p, O, s, R, q⟩ => ⟨p, O, s, R, h.mono _ _ _ (fun d s' q v O' H' R' k' a => q v σ O' H' R' k' a) q⟩, fun s E E' w q => h.mono _ _ _ (fun d s' => w.rt _ _ _) q⟩
/-- return of a slot, whichever it is -/
@[simp] def tRtV (i : Nat) : PTS := fun E s => match s.G[i]? with
  | some (.v d) => E.rt false d s
  | some (.m d) => E.rt true d { s with G := s.G.set i .no }
  | _ => False
theorem Rl.drop {i : Nat} (R : Rl K p O σ H s) : Rl K p O σ H { s with G := s.G.set i .no } := by
  have get : ∀ (j : Nat) (S : Sl), (s.G.set i .no)[j]? = some S → S = .no ∨ (i ≠ j ∧ s.G[j]? = some S) := fun j S q => by
    by_cases hj : i = j
    · subst hj
      rw [List.getElem?_set] at q
      simp only [if_true] at q
      split at q
      · injection q with q; exact .inl q.symm
      · cases q
    · rw [List.getElem?_set_ne hj] at q; exact .inr ⟨hj, q⟩
  refine ⟨by rw [List.length_set]; exact R.len, fun j S e => ?_, fun j l d1 d2 c q1 q2 => ?_, R.hand, R.frm, R.dom, R.o0, R.od, R.ob⟩
  · rcases get j S e with z | ⟨_, z⟩
    · subst z; trivial
    · exact R.sl j S z
  · rcases get j _ q1 with z | ⟨_, z⟩
    · cases z
    · rcases get l _ q2 with y | ⟨_, y⟩
      · cases y
      · exact R.inj j l d1 d2 c z y
theorem Rl.move {i : Nat} (R : Rl K p O σ H s) (g : s.G[i]? = some (.m d)) : ∃ a, σ[i]? = some (some (.ref a)) ∧ Lone K p O σ H { s with G := s.G.set i .no } a d := by
  obtain ⟨a, e1, e2, e3, e4, e5⟩ := R.sl i _ g
  refine ⟨a, e1, e2, e3, e4, e5, fun j d' q z => ?_⟩
  have hi : i < s.G.length := (List.getElem?_eq_some_iff.mp g).1
  by_cases hj : i = j
  · subst hj
    have q : (s.G.set i .no)[i]? = some (.m d') := q
    rw [List.getElem?_set_self hi] at q; cases q
  · have q : (s.G.set i .no)[j]? = some (.m d') := q
    rw [List.getElem?_set_ne hj] at q
    exact hj (R.inj i j d d' a g q e1 z)
theorem ds_retV {i : Nat} (h : PE X e (tVar i)) : DS X (.Return (some e) pos) (tRtV i) := by
  refine ⟨PS.weak (ps_ret h) fun D σ H ⟨p, O, s, R, q⟩ => ?_, fun s E E' w q => ?_⟩
  · unfold tRtV at q
    split at q
    · rename_i d g
      obtain ⟨y, e1, e2⟩ := R.sl i _ g
      exact ⟨y, e1, q y σ O H R .refl e2⟩
    · rename_i d g
      obtain ⟨a, e1, l⟩ := R.move g
      exact ⟨_, e1, q _ σ O H R.drop .refl ⟨a, rfl, l⟩⟩
    · exact q.elim
  · unfold tRtV at q ⊢
    split at q
    · exact w.rt _ _ _ q
    · exact w.rt _ _ _ q
    · exact q.elim
@[simp] def tRn : PTS := fun E s => E.rt false .none s
theorem ds_retN : DS X (.Return none pos) tRn := ⟨PS.weak ps_retN fun D σ H ⟨p, O, s, R, q⟩ => q .non σ O H R .refl .non, fun s E E' w q => w.rt _ _ _ q⟩
/-- name = e -/
@[simp] def tAs (fr : Bool) (te : PTE) (i : Nat) : PTS := fun E s => te s fun d s' => E.nx { s' with G := s'.G.set i (Sl.of fr d) }
theorem mono_as {i : Nat} (h : Mono te) : MonoS (tAs fr te i) := fun s E E' w q => h _ _ _ (fun d s' => w.nx _) q
theorem as_read {i : Nat} {D : Ends} (h : Mono te) (q : liftS K (tAs fr te i) D σ H) : tAsg (liftX K fr te) (gName i) D σ H := by
  obtain ⟨p, O, s, R, q⟩ := q
  exact ⟨p, O, s, R, h _ _ _ (fun d s' q v O' H' R' k' a => q _ O' H' (R'.setx a) k') q⟩
theorem ds_set {i : Nat} {x : Str} {pos' : Pos} (hN : X.N.Nodup) (hi : X.N[i]? = some x) (h : DX X fr e te) (hx : Loc X.env.scope x := by exact .inl rfl) (hs : swapsWith e (some (.Name x pos')) pos.line X.env = pure false := by rfl) (hf : X.fn x = true ∨ X.env.scope.names.lookup x = some .local := by first | exact .inl rfl | exact .inr rfl | assumption) :
    DS X (.Assign [.Name x pos'] e pos) (tAs fr te i) := ⟨PS.weak (ps_set hN hi hx h.pe hs hf) fun D σ H q => as_read h.mono q, mono_as h.mono⟩
theorem ds_setLc {i : Nat} {y : Str} {py spos : Pos} {iter elt : Expr} {ifs : List Expr} {scope : Scope} {own : List (Str × Nat)} {ti : PTI} {g : PTG} {tt : PTT} {ws : List Nat} (hc : X.calm = true) (hN : X.N.Nodup) (hy : X.N[i]? = some y) (hyl : X.env.scope.names.lookup y = some .local)
    (hsw : swapsWith (.ListComp elt [⟨tg, iter, ifs, 0⟩] scope pos) (some (.Name y py)) spos.line X.env = pure true) (hi : DI X true tg iter ti) (ok : BlkOk X.N X.env.scope scope own)
    (hg : Blk X scope fun Y => DG Y tg ws g) (ht : Blk X scope fun Y => DTs Y ifs tt) (he : Blk X scope fun Y => DE Y elt te) (hw : ∀ w ∈ ws, w ∈ own.map (·.2)) (hs : ∀ x, foldedSetIterable iter X.env x = pure x := by intro _; rfl) :
    DS X (.Assign [.Name y py] (.ListComp elt [⟨tg, iter, ifs, 0⟩] scope pos) spos) (tAs true (tComp ti g tt te (own.map (·.2))) i) := by
  have h0 := hg X.s_0 X.H_0 0 [] []
  have h1 := ht X.s_0 X.H_0 0 [] []
  have h2 := he X.s_0 X.H_0 0 [] []
  have hm := mono_comp (vs := own.map (·.2)) hi.mono h0.mono h1.mono h2.mono
  refine ⟨PS.weak (ps_setLc (g := liftG X.K ws g) (tt := liftT X.K tt) (te := lift X.K te) hc hN hy hyl hsw hi.pi ok (fun s H C cl fp => (hg s H C cl fp).pg) (fun s H C cl fp => (ht s H C cl fp).pt) (fun s H C cl fp => (he s H C cl fp).pe) hs) fun D σ H q => ?_, mono_as hm⟩
  refine lc_read hi.mono h0.mono h1.mono h2.mono hw ?_
  obtain ⟨p, O, s, R, q⟩ := q
  exact ⟨p, O, s, R, hm _ _ _ (fun d s' q a O' H' R' k' l => q _ O' H' (R'.setx (fr := true) ⟨a, rfl, l⟩) k') q⟩
/-- target = e -/
@[simp] def tUp (te : PTE) (g : PTG) : PTS := fun E s => te s fun d s' => g d s' E.nx
theorem ds_unp {ws : List Nat} {g : PTG} (h : DE X e te) (hg : DG X tg ws g) (hs : swapsWithSole [tg] e pos.line X.env = pure false := by rfl) (hw : swappedStores [tg] e X.env = pure none := by rfl)
    (h1 : (assignEach [tg] X.env).map (·.2) = [assign tg X.env] := by rfl) : DS X (.Assign [tg] e pos) (tUp te g) :=
  ⟨PS.weak (ps_asg h.pe hg.pg hs hw h1) fun D σ H ⟨p, O, s, R, q⟩ => ⟨p, O, s, R, h.mono _ _ _ (fun d s' q v O' H' R' k' a => ⟨p, O', s', d, R', a, hg.mono _ _ _ _ (fun s2 q σ2 R2 _ => q σ2 O' H' R2 k') q⟩) q⟩,
    fun s E E' w q => h.mono _ _ _ (fun d s' => hg.mono _ _ _ _ w.nx) q⟩

/-! ### if, while, for -/
@[simp] def tIfc (c : PTT) (t u : PTS) : PTS := fun E s => c s fun b s' => if b = true then t E s' else u E s'
theorem ds_if {c : Expr} {p1 q1 : List Stmt} {tc : PTT} (hc : DT X c tc) (h : DSs X p1 t) (k : DSs X q1 u) : DS X (.If c p1 q1 pos) (tIfc tc t u) := by
  refine ⟨PS.weak (ps_if hc.pt h.ps k.ps) fun D σ H ⟨p, O, s, R, q⟩ => ⟨p, O, s, R, hc.mono _ _ _ (fun b s' q O' H' R' k' => ?_) q⟩, fun s E E' w q => hc.mono _ _ _ (fun b s' q => ?_) q⟩
  · cases b with
    | true => exact ⟨p, O', s', R', h.mono _ _ _ (endsOf_to k') q⟩
    | false => exact ⟨p, O', s', R', k.mono _ _ _ (endsOf_to k') q⟩
  · cases b with
    | true => exact h.mono _ _ _ w q
    | false => exact k.mono _ _ _ w q
def tWh (c : PTT) (tb : PTS) : PTS := fun E s => ∃ W : Nat → PSt → Prop, (∃ m, W m s) ∧ ∀ m s, W m s → c s fun b s1 => if b = true then tb (E.lp fun s' => ∃ m', m' < m ∧ W m' s') s1 else E.nx s1
theorem ds_while {c : Expr} {tc : PTT} (hp : PassesOwn (model X.prog X.w) X.A X.env X.xe) (hc : DT X c tc) (h : DSs X sts t) : DS X (.While c sts [] pos) (tWh tc t) := by
  refine ⟨PS.weak (ps_while hp hc.pt h.ps) fun D σ H ⟨p, O, s, R, W, ⟨m0, w0⟩, turn⟩ => ?_, fun s E E' w ⟨W, w0, turn⟩ => ⟨W, w0, fun m s1 w1 => hc.mono _ _ _ (fun b s2 q => ?_) (turn m s1 w1)⟩⟩
  · refine ⟨fun m σ1 H1 => ∃ O1 s1, Rl X.K p O1 σ1 H1 s1 ∧ Kp O H O1 H1 ∧ W m s1, ⟨m0, O, s, R, .refl, w0⟩, ?_⟩
    rintro m σ1 H1 ⟨O1, s1, R1, k1, w1⟩
    refine ⟨p, O1, s1, R1, hc.mono _ _ _ (fun b s2 q O2 H2 R2 k2 => ?_) (turn m s1 w1)⟩
    cases b with
    | true =>
      refine ⟨fun σ3 H3 => ∃ m', m' < m ∧ ∃ O3 s3, Rl X.K p O3 σ3 H3 s3 ∧ Kp O H O3 H3 ∧ W m' s3, fun σ' H' ⟨m', lt, w⟩ => ⟨m', lt, w⟩, p, O2, s2, R2, h.mono _ _ _ ?_ q⟩
      have nxt : ∀ s3, (∃ m', m' < m ∧ W m' s3) → goes X.K p O2 H2 (fun σ3 H3 => ∃ m', m' < m ∧ ∃ O3 s3, Rl X.K p O3 σ3 H3 s3 ∧ Kp O H O3 H3 ∧ W m' s3) s3 := fun s3 ⟨m', lt, w⟩ σ3 O3 H3 R3 k3 => ⟨m', lt, O3, s3, R3, k1.trans (k2.trans k3), w⟩
      exact ⟨nxt, fun b d s3 q v σ3 O3 H3 R3 k3 => q v σ3 O3 H3 R3 (k1.trans (k2.trans k3)), fun s3 q σ3 O3 H3 R3 k3 => q σ3 O3 H3 R3 (k1.trans (k2.trans k3)), nxt⟩
    | false => exact q σ1 O2 H2 R2 (k1.trans k2)
  · cases b with
    | true => exact h.mono _ (E.lp _) (E'.lp _) (w.lp fun _ z => z) q
    | false => exact w.nx _ q
/-- the turns of a loop -/
def fRun (g : PTG) (tb : PTS) (E : PEnds) : List PyData → PSt → Prop
  | [], s => E.nx s
  | d :: ds, s => g d s fun s1 => tb (E.lp (fRun g tb E ds)) s1
theorem fRun_mono {g : PTG} {tb : PTS} (hg : ∀ d s Q Q', (∀ s', Q s' → Q' s') → g d s Q → g d s Q') (hb : MonoS tb) {E E' : PEnds} (w : PEnds.Le E E') : ∀ (ds : List PyData) (s : PSt), fRun g tb E ds s → fRun g tb E' ds s
  | [], s, q => w.nx _ q
  | d :: ds, s, q => hg _ _ _ _ (fun s1 => hb _ (E.lp _) (E'.lp _) (w.lp (fRun_mono hg hb w ds))) q
@[simp] def tFo (ti : PTI) (g : PTG) (tb : PTS) : PTS := fun E s => ti s fun items s1 => fRun g tb E items s1
theorem ds_for {iter : Expr} {ti : PTI} {g : PTG} {ws : List Nat} (hp : PassesOwn (model X.prog X.w) X.A X.env X.xe) (hc : X.calm = true) (hi : DI X false tg iter ti) (hg : DG X tg ws g) (h : DSs X sts t) (hs : ∀ x, foldedSetIterable iter X.env x = pure x := by intro _; rfl) :
    DS X (.For tg iter sts [] pos) (tFo ti g t) := by
  refine ⟨PS.weak (ps_for hp hc hi.pi hg.pg h.ps hs) fun D σ H ⟨p, O, s, R, q⟩ => ⟨p, O, s, R, hi.mono _ _ _ (fun items s1 q J O1 H1 R1 k1 it => ?_) q⟩, fun s E E' w q => hi.mono _ _ _ (fun items s1 => fRun_mono hg.mono h.mono w items s1) q⟩
  refine ⟨fun i m σ2 H2 => m = items.length - i ∧ i ≤ items.length ∧ ∃ O2 s2, Rl X.K p O2 σ2 H2 s2 ∧ Kp O1 H1 O2 H2 ∧ fRun g t (endsOf X.K p O H D) (items.drop i) s2, ⟨items.length, by simp, Nat.zero_le _, O1, s1, R1, .refl, q⟩, ?_⟩
  rintro i m σ2 H2 ⟨rfl, hle, O2, s2, R2, k2, q2⟩
  have st : Stand false p O1 H1 O2 H2 := ⟨k2, fun z => nomatch z⟩
  by_cases hlt : i < items.length
  · refine .inr ⟨it.go i O2 H2 st hlt, fun σ3 H3 => ∃ O3 s3, Rl X.K p O3 σ3 H3 s3 ∧ Kp O1 H1 O3 H3 ∧ fRun g t (endsOf X.K p O H D) (items.drop (i + 1)) s3, fun σ3 H3 w => ⟨items.length - (i + 1), by omega, rfl, hlt, w⟩, fun x H3 y => ?_⟩
    obtain ⟨alt, ax⟩ := it.yld i O2 H2 x H3 items[i] st R2.dom (List.getElem?_eq_getElem hlt) y
    have step : Rl X.K p O2 σ2 H3 s2 ∧ Kp O2 H2 O2 H3 := by
      rcases alt with z | ⟨b, o, hb, z⟩
      · subst z; exact ⟨R2, .refl⟩
      · subst z; exact ⟨R2.new hb, Kp.new hb⟩
    obtain ⟨R3, k3⟩ := step
    rw [List.drop_eq_getElem_cons hlt] at q2
    refine ⟨p, O2, s2, items[i], R3, ax, hg.mono _ _ _ _ (fun s4 q4 σ4 R4 _ => ⟨p, O2, s4, R4, h.mono _ _ _ ?_ q4⟩) q2⟩
    have nxt : ∀ s5, fRun g t (endsOf X.K p O H D) (items.drop (i + 1)) s5 → goes X.K p O2 H3 (fun σ3 H3 => ∃ O3 s3, Rl X.K p O3 σ3 H3 s3 ∧ Kp O1 H1 O3 H3 ∧ fRun g t (endsOf X.K p O H D) (items.drop (i + 1)) s3) s5 :=
      fun s5 q5 σ5 O5 H5 R5 k5 => ⟨O5, s5, R5, k2.trans (k3.trans k5), q5⟩
    have back : Kp O H O2 H3 := k1.trans (k2.trans k3)
    exact ⟨nxt, fun b d s5 q v σ5 O5 H5 R5 k5 => q v σ5 O5 H5 R5 (back.trans k5), fun s5 q σ5 O5 H5 R5 k5 => q σ5 O5 H5 R5 (back.trans k5), nxt⟩
  · have ei : i = items.length := by omega
    subst ei
    rw [List.drop_length] at q2
    exact .inl ⟨it.stop _ O2 H2 st (Nat.le_refl _), q2 σ2 O2 H2 R2 (k1.trans k2)⟩
end
end PD
end
section
set_option Elab.async false
set_option linter.all false
set_option maxRecDepth 100000
set_option maxHeartbeats 4000000
/-! PD15: stores in parts, several names at once, the rule for a def. -/
namespace PD
open PySem PySem.Spec PyProof.Rows L2

section
variable {K : PySem.W.Frag} {X : Cx} {p : Pm} {O O' : Ow} {σ σ' : L2.St} {H H' : Hp} {s s' : PSt} {v : V} {d : PyData} {a : Addr} {e ea eb ec tg o i : Expr} {es : List Expr} {pos ppos : Pos} {st : Stmt} {sts : List Stmt} {t u : PTS} {te ta tb tc ti : PTE} {fr fa fb fc : Bool}

/-! ### o[i] = e -/
theorem PSet.or {t u : TSet} (h : PSet X t) (k : PSet X u) : PSet X (fun o i v H Q => t o i v H Q ∨ u o i v H Q) := fun pins s σ H o i v ov iv w Q I ro ri rv q => by
  rcases q with q | q
  · exact h pins s σ H o i v ov iv w Q I ro ri rv q
  · exact k pins s σ H o i v ov iv w Q I ro ri rv q
def sameK (k k' : PyData) : Prop := keyOf k' = keyOf k ∧ keysOf k' = keysOf k
instance (k k' : PyData) : Decidable (sameK k k') := by unfold sameK; exact inferInstance
/-- d[k] = v -/
def insD (k d : PyData) (ds : List (PyData × PyData)) : List (PyData × PyData) :=
  if (ds.any fun q => decide (sameK k q.1)) = true then ds.map fun q => if sameK k q.1 then (q.1, d) else q else ds ++ [(k, d)]
theorem same_k {k k' : Key} : sameK (keyD k) (keyD k') ↔ k' = k := by
  unfold sameK
  rw [keyOf_keyD, keyOf_keyD]
  exact ⟨fun h => Option.some.inj h.1, fun h => by rw [h]; exact ⟨rfl, rfl⟩⟩
theorem same_t {k k' : List Key} : sameK (keysD k) (keysD k') ↔ k' = k := by
  have q : ∀ k : List Key, keysOf (keysD k) = some k := fun k => keysAll_map k
  unfold sameK
  rw [q, q]
  exact ⟨fun h => Option.some.inj h.2, fun h => by rw [h]; exact ⟨rfl, rfl⟩⟩
theorem AtK.app : ∀ {kvs : List (Key × V)} {ds : List (PyData × PyData)} {k : Key}, AtK K O H kvs ds → At K O H v d → AtK K O H (kvs ++ [(k, v)]) (ds ++ [(keyD k, d)])
  | _, _, _, .nil, h => .cons h .nil
  | _, _, _, .cons h1 h2, h => .cons h1 (AtK.app h2 h)
theorem AtT.app : ∀ {kvs : List (List Key × V)} {ds : List (PyData × PyData)} {k : List Key}, AtT K O H kvs ds → At K O H v d → AtT K O H (kvs ++ [(k, v)]) (ds ++ [(keysD k, d)])
  | _, _, _, .nil, h => .cons h .nil
  | _, _, _, .cons h1 h2, h => .cons h1 (AtT.app h2 h)
theorem AtK.rep : ∀ {kvs : List (Key × V)} {ds : List (PyData × PyData)} {k : Key}, AtK K O H kvs ds → At K O H v d → (kvs.any fun kv => decide (kv.1 = k)) = (ds.any fun q => decide (sameK (keyD k) q.1)) ∧ AtK K O H (kvs.map fun kv => if kv.1 = k then (kv.1, v) else kv) (ds.map fun q => if sameK (keyD k) q.1 then (q.1, d) else q)
  | _, _, _, .nil, h => ⟨rfl, .nil⟩
  | _, _, k, .cons (k := k') h1 h2, h => by
    obtain ⟨e, l⟩ := AtK.rep (k := k) h2 h
    rw [List.any_cons, List.any_cons, List.map_cons, List.map_cons, e]
    by_cases q : k' = k
    · rw [if_pos q, if_pos (same_k.mpr q), decide_eq_true q, decide_eq_true (same_k.mpr q)]
      exact ⟨rfl, .cons h l⟩
    · rw [if_neg q, if_neg fun z => q (same_k.mp z), decide_eq_false q, decide_eq_false fun z => q (same_k.mp z)]
      exact ⟨rfl, .cons h1 l⟩
theorem AtT.rep : ∀ {kvs : List (List Key × V)} {ds : List (PyData × PyData)} {k : List Key}, AtT K O H kvs ds → At K O H v d → (kvs.any fun kv => decide (kv.1 = k)) = (ds.any fun q => decide (sameK (keysD k) q.1)) ∧ AtT K O H (kvs.map fun kv => if kv.1 = k then (kv.1, v) else kv) (ds.map fun q => if sameK (keysD k) q.1 then (q.1, d) else q)
  | _, _, _, .nil, h => ⟨rfl, .nil⟩
  | _, _, k, .cons (k := k') h1 h2, h => by
    obtain ⟨e, l⟩ := AtT.rep (k := k) h2 h
    rw [List.any_cons, List.any_cons, List.map_cons, List.map_cons, e]
    by_cases q : k' = k
    · rw [if_pos q, if_pos (same_t.mpr q), decide_eq_true q, decide_eq_true (same_t.mpr q)]
      exact ⟨rfl, .cons h l⟩
    · rw [if_neg q, if_neg fun z => q (same_t.mp z), decide_eq_false q, decide_eq_false fun z => q (same_t.mp z)]
      exact ⟨rfl, .cons h1 l⟩
theorem AtK.put {kvs : List (Key × V)} {ds : List (PyData × PyData)} {k : Key} (l : AtK K O H kvs ds) (h : At K O H v d) : AtK K O H (putK kvs k v) (insD (keyD k) d ds) := by
  unfold putK insD
  rw [(l.rep (k := k) h).1]
  split
  · exact (l.rep h).2
  · exact l.app h
theorem AtT.put {kvs : List (List Key × V)} {ds : List (PyData × PyData)} {k : List Key} (l : AtT K O H kvs ds) (h : At K O H v d) : AtT K O H (putK kvs k v) (insD (keysD k) d ds) := by
  unfold putK insD
  rw [(l.rep (k := k) h).1]
  split
  · exact (l.rep h).2
  · exact l.app h
/-- a place's content of slot n -/
@[simp] def putS (s : PSt) (n : Nat) (k d : PyData) (Q : PSt → Prop) : Prop := match s.G[n]? with
  | some (.m (.list ds)) => ∃ j m, k = .int j ∧ ixN ds.length j = some m ∧ Q { s with G := s.G.set n (.m (.list (ds.set m d))) }
  | some (.m (.dict ((.bool t, .none) :: ds))) => keyFits t k = true ∧ ds.length < sizeLine ∧ Q { s with G := s.G.set n (.m (dicD t (insD k d ds))) }
  | some .h => ∃ j m, k = .int j ∧ ixN s.hd.length j = some m ∧ Q { s with hd := s.hd.set m d }
  | _ => False
theorem AtK.length : ∀ {kvs : List (Key × V)} {ds : List (PyData × PyData)}, AtK K O H kvs ds → kvs.length = ds.length
  | _, _, .nil => rfl
  | _, _, .cons _ t => by rw [List.length_cons, List.length_cons, AtK.length t]
theorem AtT.length : ∀ {kvs : List (List Key × V)} {ds : List (PyData × PyData)}, AtT K O H kvs ds → kvs.length = ds.length
  | _, _, .nil => rfl
  | _, _, .cons _ t => by rw [List.length_cons, List.length_cons, AtT.length t]
theorem mono_putS {n : Nat} {k : PyData} {Q Q' : PSt → Prop} (w : ∀ s, Q s → Q' s) (q : putS s n k d Q) : putS s n k d Q' := by
  unfold putS at q ⊢
  split at q
  · obtain ⟨j, m, e1, e2, q⟩ := q
    exact ⟨j, m, e1, e2, w _ q⟩
  · exact ⟨q.1, q.2.1, w _ q.2.2⟩
  · obtain ⟨j, m, e1, e2, q⟩ := q
    exact ⟨j, m, e1, e2, w _ q⟩
  · exact q.elim
/-- the store, read -/
theorem put_read {n : Nat} {k : PyData} {ov kv : V} {Q : Hp → Prop} (R : Rl K p O σ H s) (eo : σ[n]? = some (some ov)) (ak : At K O H kv k) (av : At K O H v d) (q : putS s n k d fun s' => ∀ O' H', Rl K p O' σ H' s' → Kp O H O' H' → Q H') :
    rSetL ov kv v H Q ∨ rSetD ov kv v H Q := by
  unfold putS at q
  split at q
  · rename_i ds g
    obtain ⟨j, m, e1, e2, q⟩ := q
    subst e1
    cases ak
    obtain ⟨b, xs, f1, f2, f3, f4⟩ := R.mlist g
    rw [eo] at f1
    cases f1
    have k2 : Kp O H O (upd H b (.lst (xs.set m v))) := ⟨fun c u e n => by rw [upd_ne (fun z => n (by rw [z]; exact f4))]; exact e, fun _ n _ => n⟩
    obtain ⟨R2, k3⟩ := R.put (d' := .list (ds.set m d)) (o := .lst (xs.set m v)) g eo (.lst upd_same ((f3.set m av).to k2))
    exact .inl ⟨b, xs, j, m, rfl, rfl, f2, by rw [f3.len]; exact e2, q O _ R2 k3⟩
  · rename_i t ds g
    obtain ⟨e1, e2, q⟩ := q
    obtain ⟨b, f1, f2, f3, f4, f5⟩ := R.sl n _ g
    rw [eo] at f1
    cases f1
    right
    cases f5 with
    | dicK h1 h2 =>
      rename_i kvs
      obtain ⟨k', rfl⟩ := keyOf_some (show (keyOf k).isSome = true from e1)
      cases ak.key
      have k2 : Kp O H O (upd H b (.dK (putK kvs k' v))) := ⟨fun c u e n => by rw [upd_ne (fun z => n (by rw [z]; exact f2))]; exact e, fun _ n _ => n⟩
      obtain ⟨R2, k3⟩ := R.put (d' := dicD false (insD (keyD k') d ds)) (o := .dK (putK kvs k' v)) g eo (.dicK upd_same ((h2.put av).to k2))
      exact ⟨b, _, rfl, DPut.k h1 (by rw [h2.length]; exact e2), q O _ R2 k3⟩
    | dicT h1 h2 =>
      rename_i kvs
      obtain ⟨k', rfl⟩ := keysOf_some (show (keysOf k).isSome = true from e1)
      have k2 : Kp O H O (upd H b (.dT (putK kvs k' v))) := ⟨fun c u e n => by rw [upd_ne (fun z => n (by rw [z]; exact f2))]; exact e, fun _ n _ => n⟩
      obtain ⟨R2, k3⟩ := R.put (d' := dicD true (insD (keysD k') d ds)) (o := .dT (putK kvs k' v)) g eo (.dicT upd_same ((h2.put av).to k2))
      cases ak with
      | tup s1 l1 =>
        rename_i c xs
        have ex := AtL.keys l1
        subst ex
        exact ⟨b, _, rfl, DPut.t h1 s1.2 (by rw [h2.length]; exact e2), q O _ R2 k3⟩
  · rename_i g
    obtain ⟨j, m, e1, e2, q⟩ := q
    subst e1
    cases ak
    obtain ⟨b, f1, f2⟩ := R.sl n _ g
    rw [eo] at f2
    cases f2
    obtain ⟨f3, xs, f4, f5⟩ := R.hand b f1
    obtain ⟨R2, k3⟩ := R.handPut f1 (f5.set m av)
    exact .inl ⟨b, xs, j, m, rfl, rfl, f4, by rw [f5.len]; exact e2, q O _ R2 k3⟩
  · exact q.elim
@[simp] def tPut (te : PTE) (n : Nat) (ti : PTE) : PTS := fun E s => te s fun d s1 => (∃ S, s1.G[n]? = some S ∧ ((∃ d, S = .m d) ∨ S = .h)) ∧ ti s1 fun k s2 => putS s2 n k d E.nx
theorem Rl.has {n : Nat} (R : Rl K p O σ H s) (h : ∃ S, s.G[n]? = some S ∧ ((∃ d, S = .m d) ∨ S = .h)) : ∃ v, σ[n]? = some (some v) := by
  obtain ⟨S, g, z⟩ := h
  have q := R.sl n S g
  rcases z with ⟨d, z⟩ | z <;> subst z
  · obtain ⟨b, e, _⟩ := q; exact ⟨_, e⟩
  · obtain ⟨b, _, e⟩ := q; exact ⟨_, e⟩
theorem ds_put {n : Nat} (hu : X.A.units + 1 < cLine) (he : DE X e te) (ho : PE X o (tVar n)) (hi : DE X i ti) (hs : swapsWithSole [.Subscript o i ppos] e pos.line X.env = pure false := by rfl) (hw : swappedStores [.Subscript o i ppos] e X.env = pure none := by rfl)
    (h1 : (assignEach [.Subscript o i ppos] X.env).map (·.2) = [assign (.Subscript o i ppos) X.env] := by rfl) (ha : ∀ v, assign (.Subscript o i ppos) X.env v = (do
      let ov ← holding [v] (eval o X.env)
      let iv ← holding [v, ov] (eval i X.env)
      standAt ppos
      holding [v, ov, iv] (setItem ov iv v)
      release [v, ov, iv] []) := by intro _; rfl) : DS X (.Assign [.Subscript o i ppos] e pos) (tPut te n ti) := by
  refine ⟨PS.weak (ps_asg he.pe (pg_sub ho hi.pe (PSet.or set_list (set_dict hu)) ha) hs hw h1) fun D σ H ⟨p, O, s, R, q⟩ => ⟨p, O, s, R, he.mono _ _ _ (fun d s1 ⟨hh, q1⟩ v O1 H1 R1 k1 av => ?_) q⟩, fun s E E' w q => he.mono _ _ _ (fun d s1 ⟨hh, q⟩ => ⟨hh, hi.mono _ _ _ (fun k s2 => mono_putS w.nx) q⟩) q⟩
  obtain ⟨ov, eo⟩ := R1.has hh
  exact ⟨ov, eo, p, O1, s1, R1, hi.mono _ _ _ (fun k s2 q2 kv O2 H2 R2 k2 ak => put_read R2 eo ak (av.to k2) (mono_putS (fun s3 q3 O3 H3 R3 k3 => q3 σ O3 H3 R3 (k1.trans (k2.trans k3))) q2)) q1⟩

/-! ### a, b = x, y -/
inductive Vals' (K : PySem.W.Frag) (p : Pm) (O : Ow) (σ : L2.St) (H : Hp) (s : PSt) : List Bool → List V → List PyData → Prop
  | nil : Vals' K p O σ H s [] [] []
  | cons {f : Bool} {v : V} {d : PyData} {fs : List Bool} {vs : List V} {ds : List PyData} : Val K p O σ H s f v d → (f = true → ∀ i : Nat, fs[i]? = some true → vs[i]? ≠ some v) → Vals' K p O σ H s fs vs ds → Vals' K p O σ H s (f :: fs) (v :: vs) (d :: ds)
def liftM (K : PySem.W.Frag) (fs : List Bool) (t : PTA) : TA := fun σ H QV => ∃ p O s, Rl K p O σ H s ∧ t s fun ds s' => ∀ vs O' H', Rl K p O' σ H' s' → Kp O H O' H' → Vals' K p O' σ H' s' fs vs ds → QV vs H'
structure DM (X : Cx) (fs : List Bool) (es : List Expr) (t : PTA) : Prop where
  pa : PA X es (liftM X.K fs t)
  mono : MonoA t
@[simp] def tMn : PTA := fun s Q => Q [] s
theorem dm_nil : DM X [] [] tMn := ⟨PA.weak pa_nil fun σ H Q ⟨p, O, s, R, q⟩ => q [] O H R .refl .nil, fun s Q Q' w q => w _ _ q⟩
@[simp] def tMc (fr : Bool) (t : PTE) (u : PTA) : PTA := fun s Q => t s fun x s1 => if fr = true then u ⟨s1.G.map Sl.inn, s1.hd⟩ fun ds s2 => Q (x :: ds) ⟨s1.G, s2.hd⟩ else u s1 fun ds s2 => Q (x :: ds) s2
theorem Val.to {f : Bool} (R : Rl K p O σ H s) (k : Kp O H O' H') (ho : ∀ a, O a → O' a) (st : ∀ b o, H b = some o → p.ha ≠ some b → H' b = some o) (hg : ∀ (i : Nat) (d' : PyData), s'.G[i]? = some (.m d') → s.G[i]? = some (.m d')) (h : Val K p O σ H s f v d) : Val K p O' σ H' s' f v d := by
  cases f with
  | false => exact At.to k h
  | true =>
    obtain ⟨a, rfl, l1, l2, l3, l4, l5⟩ := h
    refine ⟨a, rfl, ho a l1, l2, l3, l4.to k ?_, fun i d' g => l5 i d' (hg i d' g)⟩
    cases e : H a with
    | none => exact absurd e l4.some
    | some o => exact st a o e l3
/-- what stands through a part, new behind it -/
theorem Vals'.back {fs : List Bool} {vs : List V} {ds : List PyData} {hd : List PyData} (R : Rl K p O σ H s) (R' : Rl K ⟨p.ha, H, O⟩ O' σ H' s') (h : Vals' K ⟨p.ha, H, O⟩ O' σ H' s' fs vs ds) : Vals' K p O' σ H' ⟨s.G, hd⟩ fs vs ds ∧ ∀ b, H b ≠ none → ∀ (i : Nat), fs[i]? = some true → vs[i]? ≠ some (.ref b) := by
  induction h with
  | nil => exact ⟨.nil, fun b _ i e => by simp at e⟩
  | cons h1 h2 h3 ih =>
    rename_i f v d fs vs ds
    refine ⟨.cons ?_ h2 ih.1, fun b hb i e z => ?_⟩
    · cases f with
      | false => exact h1
      | true =>
        obtain ⟨a, rfl, l1, l2, l3, l4, l5⟩ := h1
        obtain ⟨f1, f2, f3⟩ := R.fresh (show H a = none from l2)
        exact ⟨a, rfl, l1, f1, l3, l4, f3⟩
    · cases i with
      | zero =>
        simp only [List.getElem?_cons_zero, Option.some.injEq] at e z
        subst e
        obtain ⟨a, ev, l1, l2, _⟩ := h1
        rw [z] at ev
        cases ev
        exact hb l2
      | succ n =>
        simp only [List.getElem?_cons_succ] at e z
        exact ih.2 b hb n e z
end
end PD
end
section
set_option Elab.async false
set_option linter.all false
set_option maxRecDepth 100000
set_option maxHeartbeats 4000000
/-! PD16: several names at once; the rule for a def. -/
namespace PD
open PySem PySem.Spec PyProof.Rows L2

section
variable {K : PySem.W.Frag} {X : Cx} {p : Pm} {O O' : Ow} {σ σ' : L2.St} {H H' : Hp} {s s' : PSt} {v w : V} {d : PyData} {a : Addr} {e ea eb ec tg o i : Expr} {es : List Expr} {pos ppos : Pos} {st : Stmt} {sts : List Stmt} {t u : PTS} {te ta tb tc ti : PTE} {fr fa fb fc : Bool}
theorem dm_cons {fs : List Bool} {u : PTA} (h : DX X fr e te) (k : DM X fs es u) (hs : starEach (e :: es) X.env = (false, eval e X.env) :: starEach es X.env := by rfl) : DM X (fr :: fs) (e :: es) (tMc fr te u) := by
  refine ⟨PA.weak (pa_cons h.pe k.pa hs) fun σ H QV ⟨p, O, s, R, q⟩ => ⟨p, O, s, R, h.mono _ _ _ (fun x s1 q1 v O1 H1 R1 k1 av => ?_) q⟩, fun s Q Q' w q => h.mono _ _ _ (fun x s1 q1 => ?_) q⟩
  · cases fr with
    | false => exact ⟨p, O1, s1, R1, k.mono _ _ _ (fun ds s2 q2 vs O2 H2 R2 k2 l2 => q2 (v :: vs) O2 H2 R2 (k1.trans k2) (.cons (At.to k2 av) (fun z => nomatch z) l2)) q1⟩
    | true =>
      refine ⟨⟨p.ha, H1, O1⟩, O1, ⟨s1.G.map Sl.inn, s1.hd⟩, R1.into [], k.mono _ _ _ (fun ds s2 q2 vs O2 H2 R2 k2 l2 => ?_) q1⟩
      have z := l2.back (hd := s2.hd) R1 R2
      refine q2 (v :: vs) O2 H2 (R1.back R2 k2) (k1.trans k2) (.cons (Val.to R1 k2 R2.o0 (fun b o e n => R2.frm b o e n) (fun _ _ g => g) av) (fun _ i e => ?_) z.1)
      obtain ⟨b, rfl, l⟩ := av
      exact z.2 b l.2.2.2.1.some i e
  · cases fr with
    | false => exact k.mono _ _ _ (fun ds s2 => w _ _) q1
    | true => exact k.mono _ _ _ (fun ds s2 => w _ _) q1
theorem Val.setx {n : Nat} {x y : PyData} (h : Val K p O σ H s fb w y) (ne : fa = true → fb = true → w ≠ v) : Val K p O (σ.set n (some v)) H { s with G := s.G.set n (Sl.of fa x) } fb w y := by
  cases fb with
  | false => exact h
  | true =>
    obtain ⟨b, rfl, l1, l2, l3, l4, l5⟩ := h
    refine ⟨b, rfl, l1, l2, l3, l4, fun m d' g z => ?_⟩
    by_cases hj : n = m
    · subst hj
      have g : (s.G.set n (Sl.of fa x))[n]? = some (.m d') := g
      rw [List.getElem?_set] at g z
      simp only [if_true] at g z
      split at g
      · split at z
        · cases fa with
          | false => cases g
          | true =>
            injection z with z
            injection z with z
            exact ne rfl rfl z.symm
        · cases z
      · cases g
    · have g : (s.G.set n (Sl.of fa x))[m]? = some (.m d') := g
      rw [List.getElem?_set_ne hj] at g z
      exact l5 m d' g z
@[simp] def tPr2 (fa fb : Bool) (i j : Nat) (t : PTA) : PTS := fun E s => t s fun ds s' => ∃ x y, ds = [x, y] ∧ E.nx { s' with G := (s'.G.set i (Sl.of fa x)).set j (Sl.of fb y) }
theorem ds_par2 {i j : Nat} {x y : Str} {a b : Expr} {t : PTA} {px py pt : Pos} {kt k2 pt2} (hc : X.calm = true) (hN : X.N.Nodup) (hi : X.N[i]? = some x) (hj : X.N[j]? = some y) (h : DM X [fa, fb] [a, b] t) (hij : i ≠ j := by decide)
    (hx : X.env.scope.names.lookup x = some .local := by rfl) (hy : X.env.scope.names.lookup y = some .local := by rfl)
    (hw : swappedStores [.Tuple [.Name x px, .Name y py] kt pt] (.Tuple [a, b] k2 pt2) X.env = pure (some [x, y]) := by rfl)
    (hs : swapsWithSole [.Tuple [.Name x px, .Name y py] kt pt] (.Tuple [a, b] k2 pt2) pos.line X.env = pure false := by rfl) :
    DS X (.Assign [.Tuple [.Name x px, .Name y py] kt pt] (.Tuple [a, b] k2 pt2) pos) (tPr2 fa fb i j t) := by
  refine ⟨PS.weak (ps_par hc hN hi hj hij hx hy h.pa hw hs) fun D σ H ⟨p, O, s, R, q⟩ => ⟨p, O, s, R, h.mono _ _ _ (fun ds s' ⟨x, y, ed, q⟩ vs O' H' R' k' l => ?_) q⟩, fun s E E' w q => h.mono _ _ _ (fun ds s' ⟨x, y, ed, q⟩ => ⟨x, y, ed, w.nx _ q⟩) q⟩
  subst ed
  cases l with
  | cons v1 n1 l =>
    cases l with
    | cons v2 n2 l =>
      cases l
      rename_i v w
      exact ⟨v, w, rfl, q _ O' H' ((R'.setx v1).setx (v2.setx fun f1 f2 z => n1 f1 0 (by rw [f2]; rfl) (by rw [← z]; rfl))) k'⟩
@[simp] def tPr3 (fa fb fc : Bool) (i j l : Nat) (t : PTA) : PTS := fun E s => t s fun ds s' => ∃ x y z, ds = [x, y, z] ∧ E.nx { s' with G := ((s'.G.set i (Sl.of fa x)).set j (Sl.of fb y)).set l (Sl.of fc z) }
theorem ds_par3 {i j l : Nat} {x y z : Str} {a b c : Expr} {t : PTA} {px py pz pt : Pos} {kt k2 pt2} (hc : X.calm = true) (hN : X.N.Nodup) (hi : X.N[i]? = some x) (hj : X.N[j]? = some y) (hl : X.N[l]? = some z) (h : DM X [fa, fb, fc] [a, b, c] t) (hij : i ≠ j := by decide) (hil : i ≠ l := by decide) (hjl : j ≠ l := by decide)
    (hx : X.env.scope.names.lookup x = some .local := by rfl) (hy : X.env.scope.names.lookup y = some .local := by rfl) (hz : X.env.scope.names.lookup z = some .local := by rfl)
    (hw : swappedStores [.Tuple [.Name x px, .Name y py, .Name z pz] kt pt] (.Tuple [a, b, c] k2 pt2) X.env = pure (some [x, y, z]) := by rfl)
    (hs : swapsWithSole [.Tuple [.Name x px, .Name y py, .Name z pz] kt pt] (.Tuple [a, b, c] k2 pt2) pos.line X.env = pure false := by rfl) :
    DS X (.Assign [.Tuple [.Name x px, .Name y py, .Name z pz] kt pt] (.Tuple [a, b, c] k2 pt2) pos) (tPr3 fa fb fc i j l t) := by
  refine ⟨PS.weak (ps_par3 hc hN hi hj hl hij hil hjl hx hy hz h.pa hw hs) fun D σ H ⟨p, O, s, R, q⟩ => ⟨p, O, s, R, h.mono _ _ _ (fun ds s' ⟨x, y, z, ed, q⟩ vs O' H' R' k' l => ?_) q⟩, fun s E E' w q => h.mono _ _ _ (fun ds s' ⟨x, y, z, ed, q⟩ => ⟨x, y, z, ed, w.nx _ q⟩) q⟩
  subst ed
  cases l with
  | cons v1 n1 l =>
    cases l with
    | cons v2 n2 l =>
      cases l with
      | cons v3 n3 l =>
        cases l
        rename_i v w x
        refine ⟨v, w, x, rfl, q _ O' H' (((R'.setx v1).setx (v2.setx fun f1 f2 z => n1 f1 0 (by rw [f2]; rfl) (by rw [← z]; rfl))).setx ?_) k'⟩
        exact (v3.setx fun f1 f2 z => n1 f1 1 (by rw [f2]; rfl) (by rw [← z]; rfl)).setx fun f1 f2 z => n2 f1 0 (by rw [f2]; rfl) (by rw [← z]; rfl)

/-! ### a def -/
@[simp] def AV.sl : AV → Sl
  | .d x => .v x
  | .hand => .h
@[simp] def initG (N : List Str) (avs : List AV) : List Sl := avs.map AV.sl ++ List.replicate (N.length - avs.length) .no
theorem AvL.length {ha : Option Addr} : ∀ {vs : List V} {avs : List AV}, AvL K O ha H vs avs → vs.length = avs.length
  | _, _, .nil => rfl
  | _, _, .d _ t => by rw [List.length_cons, List.length_cons, AvL.length t]
  | _, _, .hand _ t => by rw [List.length_cons, List.length_cons, AvL.length t]
theorem AvL.get {ha : Option Addr} : ∀ {vs : List V} {avs : List AV} {i : Nat} {x : AV}, AvL K O ha H vs avs → avs[i]? = some x → ∃ v, vs[i]? = some v ∧ ((∃ d, x = .d d ∧ At K O H v d) ∨ (x = .hand ∧ ∃ a, ha = some a ∧ v = .ref a))
  | _, _, _, _, .nil, e => by simp at e
  | _, _, 0, _, .d h _, e => by simp at e; subst e; exact ⟨_, rfl, .inl ⟨_, rfl, h⟩⟩
  | _, _, 0, _, .hand h _, e => by simp at e; subst e; exact ⟨_, rfl, .inr ⟨rfl, _, h, rfl⟩⟩
  | _, _, i + 1, x, .d _ t, e => by
    obtain ⟨v, h1, h2⟩ := AvL.get (i := i) (x := x) t (by simpa using e)
    exact ⟨v, by simpa using h1, h2⟩
  | _, _, i + 1, x, .hand _ t, e => by
    obtain ⟨v, h1, h2⟩ := AvL.get (i := i) (x := x) t (by simpa using e)
    exact ⟨v, by simpa using h1, h2⟩
theorem Rl.start {N : List Str} {vs : List V} {avs : List AV} {hd : List PyData} {ha : Option Addr} (hh : HandOk K O ha H hd) (hd0 : ∀ a, O a → H a ≠ none) (l : AvL K O ha H vs avs) : Rl K ⟨ha, H, O⟩ O (L2.start N vs) H ⟨initG N avs, hd⟩ := by
  have get : ∀ (i : Nat) (S : Sl), (initG N avs)[i]? = some S → S = .no ∨ ∃ x, avs[i]? = some x ∧ S = x.sl := fun i S e => by
    unfold initG at e
    rw [List.getElem?_append] at e
    split at e
    · rw [List.getElem?_map] at e
      cases q : avs[i]? with
      | none => rw [q] at e; cases e
      | some x => rw [q] at e; injection e with e; exact .inr ⟨x, rfl, e.symm⟩
    · rw [List.getElem?_replicate] at e
      split at e
      · injection e with e; exact .inl e.symm
      · cases e
  refine ⟨?_, fun i S e => ?_, fun i j d d' c e1 _ => ?_, hh, fun _ _ e _ => e, hd0, fun _ z => z, fun a z => hd0 a z, fun _ z _ => z⟩
  · show (initG N avs).length = (L2.start N vs).length
    unfold initG L2.start
    rw [List.length_append, List.length_append, List.length_map, List.length_map, List.length_replicate, List.length_replicate, l.length]
  · rcases get i S e with z | ⟨x, e1, e2⟩
    · subst z; trivial
    · obtain ⟨v, f1, f2⟩ := l.get e1
      have hi : i < vs.length := (List.getElem?_eq_some_iff.mp f1).1
      have f3 : (L2.start N vs)[i]? = some (some v) := by
        unfold L2.start
        rw [List.getElem?_append_left (by rw [List.length_map]; exact hi), List.getElem?_map, f1]
        rfl
      rcases f2 with ⟨d, ex, at1⟩ | ⟨ex, b, hb, ev⟩
      · subst ex e2; exact ⟨v, f3, at1⟩
      · subst ex e2 ev; exact ⟨b, hb, f3⟩
  · rcases get i _ e1 with z | ⟨x, _, z⟩
    · cases z
    · cases x <;> cases z
@[simp] def fnEnds (fr : Bool) (Q : PyData → List PyData → Prop) : PEnds :=
  ⟨fun s => fr = false ∧ Q .none s.hd, fun f d s => (fr = true → f = true) ∧ Q d s.hd, fun _ => False, fun _ => False⟩
theorem def_read {N : List Str} {vs : List V} {avs : List AV} {hd : List PyData} {ha : Option Addr} {Q : VK} (ht : MonoS t) (hh : HandOk K O ha H hd) (hd0 : ∀ a, O a → H a ≠ none) (l : AvL K O ha H vs avs)
    (q : t (fnEnds fr fun d hd' => ∀ v H', Fram ha H H' → HandOk K O ha H' hd' → (if fr = true then ∃ a, v = .ref a ∧ H a = none ∧ Own K (O.with a) H' a d ∧ HandOk K (O.with a) ha H' hd' else At K O H' v d) → Q v H') ⟨initG N avs, hd⟩) :
    liftS K t { nx := fun _ H' => Q .non H', rt := Q } (L2.start N vs) H := by
  have less : ∀ {O' : Ow} {H' : Hp}, (∀ a, O a → O' a) → Kp O' H' O H' := fun h => Kp.less h
  have hok : ∀ {O' σ' H' s'}, Rl K ⟨ha, H, O⟩ O' σ' H' s' → HandOk K O ha H' s'.hd := fun {O' σ' H' s'} R a e => by
    obtain ⟨h1, xs, h2, h3⟩ := R.hand a e
    exact ⟨(hh a e).1, xs, h2, h3.to (less R.o0)⟩
  refine ⟨⟨ha, H, O⟩, O, ⟨initG N avs, hd⟩, Rl.start hh hd0 l, ht _ (fnEnds fr _) _ ⟨fun s' ⟨ef, q⟩ σ' O' H' R k => ?_, fun f d s' ⟨ef, q⟩ v σ' O' H' R k a => ?_, fun _ z => z.elim, fun _ z => z.elim⟩ q⟩
  · subst ef
    exact q .non H' R.frm (hok R) .non
  · cases fr with
    | false =>
      refine q v H' R.frm (hok R) ?_
      cases f with
      | false => exact At.to (less R.o0) a
      | true =>
        obtain ⟨b, rfl, l1, l2, l3, l4, l5⟩ := a
        exact l4.free (fun z => R.od b z l2) R.o0
    | true =>
      cases f with
      | false => cases ef rfl
      | true =>
        obtain ⟨b, rfl, l1, l2, l3, l4, l5⟩ := a
        have k2 : Kp O' H' (O.with b) H' := Kp.less fun c z => by
          rcases z with z | z
          · exact R.o0 c z
          · rw [z]; exact l1
        refine q _ H' R.frm (hok R) ⟨b, rfl, l2, l4.to k2 rfl, fun a e => ?_⟩
        obtain ⟨h1, xs, h2, h3⟩ := R.hand a e
        exact ⟨.inl (hh a e).1, xs, h2, h3.to k2⟩
end

section
variable {P : Program} {w : World} {K : PySem.W.Frag} {mg : Str → Option Value} {base : Heap}
theorem fnD {x qual : Str} {st : Stmt} {f : Addr} {fd : FuncData} {N ps : List Str} {k : Nat} {fr : Bool} {Fs : FSpec} (F : L2.Fun K x qual st f fd) (S : FnScope N ps (defScope st)) (len : ∀ avs hd Q E, Fs avs hd Q E → avs.length = ps.length)
    (hbody : ∀ (cdv : Value) (A : Around) (outer : List Env) (s : Shared) (H : Hp) (E : XK), Room k (A.deeper (envOfC qual (defScope st) s.heap.objs.size f cdv)) →
      ∃ t, DSs (cxOf CX0 P w K mg base N qual (defScope st) f cdv A outer s H E).nox (defBody st) t ∧ ∀ avs hd Q E, Fs avs hd Q E → t (fnEnds fr Q) ⟨initG N avs, hd⟩) : FnOk P w K mg base CX0 (k + 1) f fd ps (spD K fr Fs) := by
  refine F.ok S (fun vs H Q E ⟨O, ha, avs, hd, _, _, l, q⟩ => by rw [l.length]; exact len _ _ _ _ q) fun cdv A outer s H vs Q E hr ⟨O, ha, avs, hd, hh, hd0, l, q⟩ => ?_
  obtain ⟨t, h, k⟩ := hbody cdv A outer s H E hr
  exact ⟨_, h.ps, def_read h.mono hh hd0 l (k _ _ _ _ q)⟩
end
end PD
end
section
set_option Elab.async false
set_option linter.all false
set_option maxRecDepth 100000
set_option maxHeartbeats 4000000
/-! PD17: what was left: the built-ins' names, a negative number, list(range(n)), xs[::-1]. -/
namespace PD
open PySem PySem.Spec PyProof.Rows L2

theorem bt_len : bootBuiltins "len" = some (.builtin "len") := by decide +kernel
theorem bt_all : bootBuiltins "all" = some (.builtin "all") := by decide +kernel
theorem bt_any : bootBuiltins "any" = some (.builtin "any") := by decide +kernel
theorem bt_sum : bootBuiltins "sum" = some (.builtin "sum") := by decide +kernel
theorem bt_abs : bootBuiltins "abs" = some (.builtin "abs") := by decide +kernel
theorem bt_min : bootBuiltins "min" = some (.builtin "min") := by decide +kernel
theorem bt_max : bootBuiltins "max" = some (.builtin "max") := by decide +kernel
theorem bt_sorted : bootBuiltins "sorted" = some (.builtin "sorted") := by decide +kernel
theorem bt_isinstance : bootBuiltins "isinstance" = some (.builtin "isinstance") := by decide +kernel
theorem bt_int : bootBuiltins "int" = some (.type "int") := by decide +kernel
theorem bt_str : bootBuiltins "str" = some (.type "str") := by decide +kernel
theorem bt_bool : bootBuiltins "bool" = some (.type "bool") := by decide +kernel
theorem bt_list : bootBuiltins "list" = some (.type "list") := by decide +kernel
theorem bt_tuple : bootBuiltins "tuple" = some (.type "tuple") := by decide +kernel
theorem bt_dict : bootBuiltins "dict" = some (.type "dict") := by decide +kernel

section
variable {K : PySem.W.Frag} {X : Cx} {p : Pm} {O O' : Ow} {σ σ' : L2.St} {H H' : Hp} {s s' : PSt} {v w : V} {d : PyData} {a : Addr} {e ea eb ec tg o i : Expr} {es : List Expr} {pos ppos : Pos} {te ta tb tc ti : PTE}
theorem hu64 {k : Nat} {A : Around} (h : Room k A) : A.units + 64 < cLine := by have := h.un; omega
theorem hu1_ {k : Nat} {A : Around} (h : Room k A) : A.units + 1 < cLine := by have := h.un; omega
@[simp] def tNg (t : PTE) : PTE := fun s Q => t s fun d s' => ∃ i, d = .int i ∧ Q (.int (-i)) s'
theorem de_neg (h : DE X e te) : DE X (.UnaryOp .USub e pos) (tNg te) :=
  ⟨PE.weak (pe_un un_neg h.pe) fun σ H Q ⟨p, O, s, R, q⟩ => ⟨p, O, s, R, h.mono _ _ _ (fun d s' ⟨i, ed, q⟩ v O' H' R' k a => by
      subst ed
      cases a
      exact ⟨i, rfl, q _ O' H' R' k (.int _)⟩) q⟩,
    fun s Q Q' w q => h.mono _ _ _ (fun d s' ⟨i, ed, q⟩ => ⟨i, ed, w _ _ q⟩) q⟩
@[simp] def tLr (t : PTE) : PTE := fun s Q => t s fun d s' => ∃ n : Int, d = .int n ∧ 0 ≤ n ∧ n ≤ 16777216 ∧ Q (.list (rngD 0 n.toNat)) s'
theorem atL_rg (K : PySem.W.Frag) (O : Ow) (H : Hp) (a b : Int) : AtL K O H (rgV a b) (rngD a (b - a).toNat) := by
  unfold rgV rngD
  generalize (b - a).toNat = n
  have go : ∀ l : List Nat, AtL K O H (l.map fun i => V.int (a + (i : Nat))) (l.map fun i => PyData.int (a + (i : Nat))) := fun l => by
    induction l with
    | nil => exact .nil
    | cons x l ih => exact .cons (.int _) ih
  exact go _
theorem df_listRg {p1 p2 : Pos} (hc : X.calm = true) (hg : Gl X "list") (hm : X.mg "list" = none) (hg2 : Gl X "range") (hm2 : X.mg "range" = none) (h : DE X e te) (he : starEach [e] X.env = (false, eval e X.env) :: starEach [] X.env := by rfl) (hn : starEach [.Call (.Name "range" p2) [e] [] ppos] X.env = (false, eval (.Call (.Name "range" p2) [e] [] ppos) X.env) :: starEach [] X.env := by rfl) : DF X (.Call (.Name "list" p1) [.Call (.Name "range" p2) [e] [] ppos] [] pos) (tLr te) :=
  ⟨PE.weak (pe_listRg hc hg hm (prg_1 hg2 hm2 h.pe he) hn) fun σ H Q ⟨p, O, s, R, q⟩ => ⟨p, O, s, R, h.mono _ _ _ (fun d s' ⟨n, ed, h0, h1, q⟩ v O' H' R' k a => by
      subst ed
      cases a
      refine ⟨n, rfl, RgOk.of_le (Int.le_refl _) h1 (by decide) h0, fun l hl => ?_⟩
      have z := atL_rg X.K O' H' 0 n
      rw [Int.sub_zero] at z
      obtain ⟨f1, f2, f3⟩ := fin_lone R' hl z
      exact q l _ _ f1 (k.trans f2) f3) q⟩,
    fun s Q Q' w q => h.mono _ _ _ (fun d s' ⟨i, ed, h0, h1, q⟩ => ⟨i, ed, h0, h1, w _ _ q⟩) q⟩
end

/-! ### t[::-1] of a tuple -/
section
variable {prog : Program} {w : World} {A : Around} {E : Value → Shared → Prop} {s : Shared}
theorem adjust_back (n : Nat) : Builtin.Slice.sliceAdjust none none (-1) (n : Int) = ((n : Int) - 1, -1) := by
  unfold Builtin.Slice.sliceAdjust
  simp
theorem places_back (n : Nat) : Builtin.Slice.slicePlaces ((n : Int) - 1) (-1) (-1) = n := by
  unfold Builtin.Slice.slicePlaces
  have h1 : ¬ ((-1 : Int) > 0) := by decide
  have h2 : (- -1 : Int) = 1 := by decide
  simp only [h1, if_false, h2, Int.ediv_one]
  split <;> omega
theorem applied_back {sl : Addr} {vl vu vs : Value} {n : Nat} {Q : Int × Int × Nat → Shared → Prop} (hs : s.heap.IsSliceOf sl vl vu vs) (pl : IsPart vl none) (pu : IsPart vu none) (ps : IsPart vs (some (-1)))
    (h : Q ((n : Int) - 1, -1, n) s) : wpAny (model prog w) A (Builtin.Slice.sliceApplied (.ref sl) (pure (n : Int))) Q E s := by
  obtain ⟨ob, h1, h2, h3⟩ := hs
  unfold Builtin.Slice.sliceApplied Builtin.Slice.sliceFields
  refine wpAny_bind (wpAny_bind (wpAny_field h1 h3 (x := vl) rfl (wpAny_bind (wpAny_field h1 h3 (x := vu) rfl (wpAny_bind (wpAny_field h1 h3 (x := vs) rfl (wpAny_pure ?_)))))))
  refine wpAny_bind (HT.slicePart_ ps ?_)
  show wpAny _ _ (if ((-1 : Int) == 0) = true then _ else _) _ _ s
  rw [if_neg (by decide)]
  refine wpAny_bind (HT.slicePart_ pl (wpAny_bind (HT.slicePart_ pu (wpAny_bind (wpAny_pure ?_)))))
  show wpAny _ _ (match Builtin.Slice.sliceAdjust none none (-1) (n : Int) with | (l, u) => pure (l, (-1 : Int), Builtin.Slice.slicePlaces l u (-1))) _ _ s
  rw [adjust_back]
  show wpAny _ _ (pure ((n : Int) - 1, (-1 : Int), Builtin.Slice.slicePlaces ((n : Int) - 1) (-1) (-1))) _ _ s
  rw [places_back]
  exact wpAny_pure h
theorem pick_back (xs : Array Value) : ((List.range xs.size).filterMap fun (m : Nat) => xs[(((xs.size : Int) - 1) + (m : Int) * (-1)).toNat]?).toArray = xs.toList.reverse.toArray := by
  have e : (List.range xs.size).filterMap (fun (m : Nat) => xs[(((xs.size : Int) - 1) + (m : Int) * (-1)).toNat]?) = ((List.range xs.size).map fun k => xs.size - 1 - k).filterMap (xs[·]?) := by
    rw [List.filterMap_map]
    have go : ∀ l : List Nat, (∀ m ∈ l, m < xs.size) → l.filterMap (fun (m : Nat) => xs[(((xs.size : Int) - 1) + (m : Int) * (-1)).toNat]?) = l.filterMap ((fun x => xs[x]?) ∘ fun k => xs.size - 1 - k) := fun l => by
      induction l with
      | nil => exact fun _ => rfl
      | cons m l ih =>
        intro h
        have hm := h m List.mem_cons_self
        have e1 : (((xs.size : Int) - 1) + (m : Int) * (-1)).toNat = xs.size - 1 - m := by omega
        rw [List.filterMap_cons, List.filterMap_cons, ih fun y hy => h y (List.mem_cons_of_mem _ hy)]
        rw [show ((fun x => xs[x]?) ∘ fun k => xs.size - 1 - k) m = xs[xs.size - 1 - m]? from rfl]
        rw [e1]
    exact go _ fun m hm => List.mem_range.mp hm
  rw [e, PySem.W.krv_range, List.filterMap_reverse, PySem.W.krv_all]
theorem tuple_back {t sl : Addr} {items : Array Value} {vl vu vs : Value} {Q : Value → Shared → Prop} (ht : IsTup s.heap t items) (hs : s.heap.IsSliceOf sl vl vu vs) (pl : IsPart vl none) (pu : IsPart vu none) (ps : IsPart vs (some (-1)))
    (h : Q (.ref s.heap.objs.size) { s with heap := s.heap.push { cls := .type "tuple", data := .seq items.toList.reverse.toArray } })
    (hsz : items.size ≤ sizeLine) : wpAny (model prog w) A (getItem (.ref t) (.ref sl)) Q E s := by
  have fit : sizeOk (.seq items.toList.reverse.toArray) := by
    show items.toList.reverse.toArray.size ≤ sizeLine
    rw [List.size_toArray, List.length_reverse, Array.length_toList]
    exact hsz
  obtain ⟨ob, h1, h2, h3⟩ := id hs
  have ty : s.TypeIs (.ref sl) "slice" := ⟨ob, h1, h2⟩
  unfold getItem
  try with_reducible refine wpAny_holding ?_
  first | refine wpAny_bind (wpAny_pure ?_) | skip
  refine wpAny_bind (wpAny_sequenceKey ht.typeIs (by decide) (wpAny_bind (wpAny_callSpecial?_slot (name := Str.ofString "__getitem__") ht.typeIs PyProof.Rows.slot_tuple_getitem (wpAny_call_entry PyProof.Rows.slot_tuple_getitem ht.typeIs PyProof.Rows.entry_tuple_getitem ?_ (PyProof.Rows.args_tuple_getitem _ _)))))
  show wpAny _ _ (Builtin.Tuple.tupleItemsOf (.ref t) >>= _) _ _ s
  refine wpAny_bind (tupleItemsOf_ ht (wpAny_bind (wpAny_typeOf ty ?_)))
  rw [if_pos (by decide)]
  refine wpAny_bind (applied_back hs pl pu ps ?_)
  have no : ¬ ((((items.size : Int) - 1) == 0 && (-1 : Int) == 1 && items.size == items.size) = true) := by
    intro q
    rw [Bool.and_eq_true, Bool.and_eq_true] at q
    exact absurd (eq_of_beq q.1.2) (by decide)
  show wpAny _ _ (if (((items.size : Int) - 1) == 0 && (-1 : Int) == 1 && items.size == items.size) = true then _ else _) _ _ s
  rw [if_neg no, pick_back]
  first
    | exact wpAny_bind (m := Builtin.Tuple.tupleExact _) (wpAny_newObj_type (wpAny_pure ⟨_, rfl, wpAny_pure h⟩) fit)
    | exact wpAny_bind (m := Builtin.Tuple.tupleExact _) (wpAny_newObj_type (wpAny_bind (wpAny_pure (wpAny_pure ⟨_, rfl, wpAny_pure h⟩))) fit)
    | exact wpAny_bind (wpAny_bind (m := Builtin.Tuple.tupleExact _) (wpAny_newObj_type (wpAny_pure (wpAny_pure ⟨_, rfl, wpAny_pure h⟩)) fit))
    | exact wpAny_bind (wpAny_bind (m := Builtin.Tuple.tupleExact _) (wpAny_newObj_type (wpAny_pure ⟨_, rfl, wpAny_pure h⟩) fit))
end
def tBk (K : PySem.W.Frag) (te : TE) : TE := fun σ H Q => te σ H fun x H1 => ∃ a xs, x = .ref a ∧ ((SqL K H1 a xs ∧ ∀ p, H1 p = none → Q (.ref p) (upd H1 p (.lst xs.reverse))) ∨ (SqT K H1 a xs ∧ ∀ p, H1 p = none → Q (.ref p) (upd H1 p (.tup xs.reverse))))
theorem pe_back {X : Cx} {e : Expr} {te : TE} {k : Nat} {p1 p2 p3 pos : Pos} (he : PE X e te) : PE X (.Subscript e (.Slice none none (some (.UnaryOp .USub (.Constant (.int 1) k p1) p2)) p3) pos) (tBk X.K te) := by
  refine ⟨fun pins sh σ H Q I h => Subscript_ (thn (he.run pins sh σ H _ I h) fun v s1 ⟨x, H1, I1, r1, a, xs, ex, q⟩ => ?_)⟩
  subst ex
  cases r1
  have st : PO X (some (.UnaryOp .USub (.Constant (.int 1) k p1) p2)) (tPart (tUn (rU fun i => .int (-i)) (tC (.int 1)))) := po_some (pe_un un_neg pe_int)
  refine wpAny_Slice (thn (po_none.run pins s1 σ H1 (fun u G => u = none ∧ G = H1) I1 ⟨rfl, rfl⟩) fun vl s2 ⟨l1, H2, I2, pl, e1, e2⟩ => ?_)
  subst e1 e2
  refine thn (po_none.run pins s2 σ H2 (fun u G => u = none ∧ G = H2) I2 ⟨rfl, rfl⟩) fun vu s3 ⟨l2, H3, I3, pu, e1, e2⟩ => ?_
  subst e1 e2
  refine thn (st.run pins s3 σ H3 (fun u G => u = some (-1) ∧ G = H3) I3 ⟨1, rfl, -1, rfl, rfl, rfl⟩) fun vs s4 ⟨l3, H4, I4, ps, e1, e2⟩ => ?_
  subst e1 e2
  have I5 : Inv X pins σ H4 { s4 with heap := s4.heap.push { cls := .type "slice", data := .fields #[vl, vu, vs] } } := I4.kept (t' := s4.toks) fun b ob q => Heap.get?_push_of_some _ q
  show wpAny (model X.prog X.w) X.A (subscriptTail e (.Slice none none (some (.UnaryOp .USub (.Constant (.int 1) k p1) p2)) p3) (.ref a) (.ref s4.heap.objs.size)) (EP X pins σ Q) X.xe { s4 with heap := s4.heap.push { cls := .type "slice", data := .fields #[vl, vu, vs] } }
  rcases q with ⟨hx, q⟩ | ⟨hx, q⟩
  · obtain ⟨its, r, ht, hz⟩ := I5.list hx
    have hl := r.length
    refine tail_any (ops := [.ref a, .ref s4.heap.objs.size]) ht.isList.typeIs (PySem.slot_list_getitem.lookup) ?_ (by with_unfolding_all rfl)
    refine wpAny_getItem_list_slice ht.isList (Heap.IsSliceOf.new _ vl vu vs) pl pu ps (by decide) ?_ (by rw [List.size_toArray]; omega)
    rw [PySem.W.krv_pick]
    exact ⟨.ref _, _, I5.laid (t' := s4.toks) (o := .lst xs.reverse) (fun b ob q => Heap.get?_push_of_some _ q) (Nat.le_refl _) ⟨by rw [List.length_reverse]; exact hz, _, 0, r.reverse, Heap.get?_push_size _ rfl⟩, rfl, q _ (I5.hok.fresh (Nat.le_refl _))⟩
  · obtain ⟨its, r, ht, hz⟩ := I5.tuple hx
    have hl := r.length
    refine tail_any (ops := [.ref a, .ref s4.heap.objs.size]) ht.typeIs (PyProof.Rows.slot_tuple_getitem.lookup) ?_ (by with_unfolding_all rfl)
    refine tuple_back ht (Heap.IsSliceOf.new _ vl vu vs) pl pu ps ?_ (by rw [List.size_toArray]; omega)
    refine ⟨.ref _, _, I5.laid (t' := s4.toks) (o := .tup xs.reverse) (fun b ob q => Heap.get?_push_of_some _ q) (Nat.le_refl _) ?_, rfl, q _ (I5.hok.fresh (Nat.le_refl _))⟩
    exact ⟨by rw [List.length_reverse]; exact hz, _, r.reverse, IsTup.new _ _⟩
section
variable {X : Cx} {e : Expr} {pos : Pos}
def backD : PyData → Option PyData
  | .list ds => some (.list ds.reverse)
  | .tuple ds => some (.tuple ds.reverse)
  | _ => none
@[simp] def tBkD (t : PTL) : PTE := fun s Q => t s fun x s' => ∃ d z, rd s' x = some d ∧ backD d = some z ∧ Q z s'
theorem de_rev {t : PTL} {k : Nat} {q1 q2 q3 : Pos} (h : DL X e t) : DE X (.Subscript e (.Slice none none (some (.UnaryOp .USub (.Constant (.int 1) k q1) q2)) q3) pos) (tBkD t) :=
  ⟨PE.weak (pe_back h.pe) fun σ H Q ⟨p, O, s, R, q⟩ => ⟨p, O, s, R, h.mono _ _ _ (fun x s' ⟨d, z, e1, e2, q⟩ v O' H' R' k a => by
      have ax := R'.read a e1
      unfold backD at e2
      split at e2
      · cases e2
        obtain ⟨b, xs, rfl, h1, h2⟩ := ax.lst
        refine ⟨b, xs, rfl, .inl ⟨SqL.of h1, fun l hl => ?_⟩⟩
        obtain ⟨f1, f2, f3⟩ := fin_lst R' hl h2.reverse
        exact q _ O' _ f1 (k.trans f2) f3
      · cases e2
        obtain ⟨b, xs, rfl, h1, h2⟩ := ax.tup
        refine ⟨b, xs, rfl, .inr ⟨h1.sq, fun l hl => ?_⟩⟩
        obtain ⟨f1, f2, f3⟩ := fin_tup R' hl h2.reverse
        exact q _ O' _ f1 (k.trans f2) f3
      · cases e2) q⟩,
    fun s Q Q' w q => h.mono _ _ _ (fun x s' ⟨d, z, e1, e2, q⟩ => ⟨d, z, e1, e2, w _ _ q⟩) q⟩
end
end PD
end
section
set_option Elab.async false
set_option linter.all false
set_option maxRecDepth 100000
set_option maxHeartbeats 4000000
/-! PD18: min, max of two numbers; how the readings of loops are shown. -/
namespace PD
open PySem PySem.Spec PyProof.Rows L2

def min2D : List PyData → Option PyData
  | [.int i, .int j] => some (.int (if j < i then j else i))
  | _ => none
def max2D : List PyData → Option PyData
  | [.int i, .int j] => some (.int (if j > i then j else i))
  | _ => none
section
variable {K : PySem.W.Frag} {X : Cx} {O : Ow} {H : Hp}
theorem AtEL.both {xs : List V} {d e : PyData} (h : AtEL K O H xs [d, e]) : ∃ v w, xs = [v, w] ∧ AtE K O H v d ∧ AtE K O H w e := by
  cases h with
  | cons h1 h =>
    cases h with
    | cons h2 h =>
      cases h
      exact ⟨_, _, rfl, h1, h2⟩
theorem call_min2P (hc : X.calm = true) : CallD X (.builtin "min") min2D := by
  intro pins sh σ H xs us Q I rv ⟨O, ds, z, a, e, k, _, _⟩
  unfold min2D at e
  split at e
  · cases e
    obtain ⟨v, w, rfl, a1, a2⟩ := a.both
    cases a1.int; cases a2.int
    exact call_min2 hc pins sh σ H _ us Q I rv ⟨_, _, rfl, k _ (.int _)⟩
  · cases e
theorem call_max2P (hc : X.calm = true) : CallD X (.builtin "max") max2D := by
  intro pins sh σ H xs us Q I rv ⟨O, ds, z, a, e, k, _, _⟩
  unfold max2D at e
  split at e
  · cases e
    obtain ⟨v, w, rfl, a1, a2⟩ := a.both
    cases a1.int; cases a2.int
    exact call_max2 hc pins sh σ H _ us Q I rv ⟨_, _, rfl, k _ (.int _)⟩
  · cases e
end

/-! ### loops -/
/-- a loop's reading by an invariant of the turn -/
theorem fRun_inv {g : PTG} {tb : PTS} {E : PEnds} {items : List PyData} (I : Nat → PSt → Prop)
    (step : ∀ (i : Nat) (d : PyData) (s : PSt) (N : PSt → Prop), items[i]? = some d → I i s → (∀ s', I (i + 1) s' → N s') → g d s fun s1 => tb (E.lp N) s1)
    (done : ∀ s, I items.length s → E.nx s) {s : PSt} (h : I 0 s) : fRun g tb E items s := by
  have go : ∀ (k i : Nat) (s : PSt), k = items.length - i → i ≤ items.length → I i s → fRun g tb E (items.drop i) s := fun k => by
    induction k with
    | zero =>
      intro i s hk hi h
      have e : i = items.length := by omega
      subst e
      rw [List.drop_length]
      exact done s h
    | succ k ih =>
      intro i s hk hi h
      have hlt : i < items.length := by omega
      rw [List.drop_eq_getElem_cons hlt]
      exact step i items[i] s _ (List.getElem?_eq_getElem hlt) h fun s' h' => ih (i + 1) s' (by omega) (by omega) h'
  exact go _ 0 s rfl (Nat.zero_le _) h
theorem tWh_inv {c : PTT} {tb : PTS} {E : PEnds} {s : PSt} (I : PSt → Prop) (m : PSt → Nat) (h : I s)
    (step : ∀ (s : PSt) (N : PSt → Prop), I s → (∀ s', I s' → m s' < m s → N s') → c s fun b s1 => if b = true then tb (E.lp N) s1 else E.nx s1) : tWh c tb E s :=
  ⟨fun k s => I s ∧ m s = k, ⟨m s, h, rfl⟩, fun k s1 ⟨h1, e⟩ => step s1 _ h1 fun s' h' lt => ⟨m s', by omega, h', rfl⟩⟩
/-- a comprehension that leaves the hand -/
theorem cRun_map {g : PTG} {tt : PTT} {te : PTE} {vs : List Nat} {G : List Sl} {hd : List PyData} (p : PyData → Bool) (f : PyData → PyData) :
    ∀ (ds : List PyData), (∀ d ∈ ds, ∀ (Y : PyData → List PyData → Prop) (N : List PyData → Prop), (p d = true → Y (f d) hd) → (p d = false → N hd) → g d ⟨blkG G vs, hd⟩ fun s1 => tt s1 fun b s2 => if b = true then te s2 fun y s3 => Y y s3.hd else N s2.hd) →
      ∀ (out : List PyData) (Q : List PyData → List PyData → Prop), Q (out ++ (ds.filter p).map f) hd → cRun g tt te vs G ds out hd Q
  | [], _, out, Q, q => by simpa [cRun] using q
  | d :: ds, h, out, Q, q => by
    unfold cRun
    refine h d List.mem_cons_self (fun y hd => cRun g tt te vs G ds (out ++ [y]) hd Q) (fun hd => cRun g tt te vs G ds out hd Q) (fun e => ?_) fun e => ?_
    · refine cRun_map p f ds (fun x hx => h x (List.mem_cons_of_mem _ hx)) _ Q ?_
      rw [List.filter_cons, if_pos e, List.map_cons] at q
      simpa using q
    · refine cRun_map p f ds (fun x hx => h x (List.mem_cons_of_mem _ hx)) _ Q ?_
      rw [List.filter_cons, if_neg (by rw [e]; exact Bool.false_ne_true)] at q
      exact q
/-- a comprehension without tests, over typed items, the hand left -/
theorem cRun_of {α : Type} {g : PTG} {te : PTE} {vs : List Nat} {G : List Sl} {hd : List PyData} (c : α → PyData) (f : α → PyData) (l : List α)
    (h : ∀ a ∈ l, ∀ (Y : PyData → List PyData → Prop), Y (f a) hd → g (c a) ⟨blkG G vs, hd⟩ fun s1 => te s1 fun y s3 => Y y s3.hd)
    (out : List PyData) (Q : List PyData → List PyData → Prop) (q : Q (out ++ l.map f) hd) : cRun g tYs te vs G (l.map c) out hd Q := by
  induction l generalizing out with
  | nil => simpa [cRun] using q
  | cons a l ih =>
    rw [List.map_cons]
    unfold cRun
    refine h a List.mem_cons_self (fun y hd => cRun g tYs te vs G (l.map c) (out ++ [y]) hd Q) (ih (fun x hx => h x (List.mem_cons_of_mem _ hx)) _ ?_)
    simpa using q
/-- .. with a test -/
theorem cRun_if {α : Type} {g : PTG} {tt : PTT} {te : PTE} {vs : List Nat} {G : List Sl} {hd : List PyData} (c : α → PyData) (p : α → Bool) (f : α → PyData) (l : List α)
    (h : ∀ a ∈ l, ∀ (Y : PyData → List PyData → Prop) (N : List PyData → Prop), (p a = true → Y (f a) hd) → (p a = false → N hd) → g (c a) ⟨blkG G vs, hd⟩ fun s1 => tt s1 fun b s2 => if b = true then te s2 fun y s3 => Y y s3.hd else N s2.hd)
    (out : List PyData) (Q : List PyData → List PyData → Prop) (q : Q (out ++ (l.filter p).map f) hd) : cRun g tt te vs G (l.map c) out hd Q := by
  induction l generalizing out with
  | nil => simpa [cRun] using q
  | cons a l ih =>
    rw [List.map_cons]
    unfold cRun
    refine h a List.mem_cons_self (fun y hd => cRun g tt te vs G (l.map c) (out ++ [y]) hd Q) (fun hd => cRun g tt te vs G (l.map c) out hd Q) (fun e => ?_) fun e => ?_
    · refine ih (fun x hx => h x (List.mem_cons_of_mem _ hx)) _ ?_
      rw [List.filter_cons, if_pos e, List.map_cons] at q
      simpa using q
    · refine ih (fun x hx => h x (List.mem_cons_of_mem _ hx)) _ ?_
      rw [List.filter_cons, if_neg (by rw [e]; exact Bool.false_ne_true)] at q
      exact q
/-- a comprehension that turns the hand: an invariant of what is made -/
theorem cRun_inv {g : PTG} {tt : PTT} {te : PTE} {vs : List Nat} {G : List Sl} {items : List PyData} {Q : List PyData → List PyData → Prop} (I : Nat → List PyData → List PyData → Prop)
    (step : ∀ (i : Nat) (d : PyData) (out hd : List PyData) (Y : PyData → List PyData → Prop) (N : List PyData → Prop), items[i]? = some d → I i out hd → (∀ y hd', I (i + 1) (out ++ [y]) hd' → Y y hd') → (∀ hd', I (i + 1) out hd' → N hd') →
      g d ⟨blkG G vs, hd⟩ fun s1 => tt s1 fun b s2 => if b = true then te s2 fun y s3 => Y y s3.hd else N s2.hd)
    (done : ∀ out hd, I items.length out hd → Q out hd) {hd : List PyData} (h : I 0 [] hd) : cRun g tt te vs G items [] hd Q := by
  have go : ∀ (k i : Nat) (out hd : List PyData), k = items.length - i → i ≤ items.length → I i out hd → cRun g tt te vs G (items.drop i) out hd Q := fun k => by
    induction k with
    | zero =>
      intro i out hd hk hi h
      have e : i = items.length := by omega
      subst e
      rw [List.drop_length]
      exact done out hd h
    | succ k ih =>
      intro i out hd hk hi h
      have hlt : i < items.length := by omega
      rw [List.drop_eq_getElem_cons hlt]
      unfold cRun
      exact step i items[i] out hd (fun y hd => cRun g tt te vs G (items.drop (i + 1)) (out ++ [y]) hd Q) (fun hd => cRun g tt te vs G (items.drop (i + 1)) out hd Q) (List.getElem?_eq_getElem hlt) h
        (fun y hd' h' => ih (i + 1) _ hd' (by omega) (by omega) h') fun hd' h' => ih (i + 1) _ hd' (by omega) (by omega) h'
  exact go _ 0 [] hd rfl (Nat.zero_le _) h
end PD
end
section
set_option Elab.async false
set_option linter.all false
set_option maxRecDepth 100000
set_option maxHeartbeats 4000000
/-! PM1: the data's operations on numbers, rows of numbers. -/
namespace PD
open PySem PySem.Spec PyProof.Rows L2

@[simp] theorem plain_int (i : Int) : (PyData.int i).plain = true := by simp [PyData.plain]
@[simp] theorem plain_bool (i : Bool) : (PyData.bool i).plain = true := by simp [PyData.plain]
@[simp] theorem plain_none : PyData.none.plain = true := by simp [PyData.plain]
@[simp] theorem plain_str (i : Str) : (PyData.str i).plain = true := by simp [PyData.plain]
@[simp] theorem plain_tuple (l : List PyData) : (PyData.tuple l).plain = PyData.plainAll l := by simp [PyData.plain]
@[simp] theorem plain_list (l : List PyData) : (PyData.list l).plain = PyData.plainAll l := by simp [PyData.plain]
@[simp] theorem plainAll_nil : PyData.plainAll [] = true := by simp [PyData.plainAll]
@[simp] theorem plainAll_cons (d : PyData) (l : List PyData) : PyData.plainAll (d :: l) = (d.plain && PyData.plainAll l) := by simp [PyData.plainAll]
theorem plainAll_of {l : List PyData} (h : ∀ d ∈ l, d.plain = true) : PyData.plainAll l = true := by
  induction l with
  | nil => simp
  | cons d l ih => simp [h d List.mem_cons_self, ih fun x hx => h x (List.mem_cons_of_mem _ hx)]
@[simp] theorem depth_int (i : Int) : (PyData.int i).depth = 0 := by simp [PyData.depth]
@[simp] theorem depth_bool (i : Bool) : (PyData.bool i).depth = 0 := by simp [PyData.depth]
@[simp] theorem depth_none : PyData.none.depth = 0 := by simp [PyData.depth]
@[simp] theorem depth_str (i : Str) : (PyData.str i).depth = 0 := by simp [PyData.depth]
@[simp] theorem depth_tuple (l : List PyData) : (PyData.tuple l).depth = PyData.depthAll l + 1 := by simp [PyData.depth]
@[simp] theorem depth_list (l : List PyData) : (PyData.list l).depth = PyData.depthAll l + 1 := by simp [PyData.depth]
@[simp] theorem depthAll_nil : PyData.depthAll [] = 0 := by simp [PyData.depthAll]
@[simp] theorem depthAll_cons (d : PyData) (l : List PyData) : PyData.depthAll (d :: l) = max d.depth (PyData.depthAll l) := by simp [PyData.depthAll]
theorem depthAll_le {l : List PyData} {n : Nat} (h : ∀ d ∈ l, d.depth ≤ n) : PyData.depthAll l ≤ n := by
  induction l with
  | nil => simp
  | cons d l ih =>
    have h1 := h d List.mem_cons_self
    have h2 := ih fun x hx => h x (List.mem_cons_of_mem _ hx)
    simp; omega
@[simp] theorem truthy_bool (b : Bool) : (PyData.bool b).truthy = b := by simp [PyData.truthy]
@[simp] theorem isInt_int (i : Int) : (PyData.int i).isInt = true := rfl
@[simp] theorem isInt_bool (i : Bool) : (PyData.bool i).isInt = true := rfl
@[simp] theorem isInt_none : PyData.none.isInt = false := rfl
@[simp] theorem isInt_str (i : Str) : (PyData.str i).isInt = false := rfl
@[simp] theorem isInt_tuple (l : List PyData) : (PyData.tuple l).isInt = false := rfl
@[simp] theorem isInt_list (l : List PyData) : (PyData.list l).isInt = false := rfl
@[simp] theorem isBool_int (i : Int) : (PyData.int i).isBool = false := rfl
@[simp] theorem isBool_bool (i : Bool) : (PyData.bool i).isBool = true := rfl
@[simp] theorem isBool_none : PyData.none.isBool = false := rfl
@[simp] theorem isBool_str (i : Str) : (PyData.str i).isBool = false := rfl
@[simp] theorem isBool_tuple (l : List PyData) : (PyData.tuple l).isBool = false := rfl
@[simp] theorem isBool_list (l : List PyData) : (PyData.list l).isBool = false := rfl
@[simp] theorem isTuple_int (i : Int) : (PyData.int i).isTuple = false := rfl
@[simp] theorem isTuple_bool (i : Bool) : (PyData.bool i).isTuple = false := rfl
@[simp] theorem isTuple_none : PyData.none.isTuple = false := rfl
@[simp] theorem isTuple_str (i : Str) : (PyData.str i).isTuple = false := rfl
@[simp] theorem isTuple_tuple (l : List PyData) : (PyData.tuple l).isTuple = true := rfl
@[simp] theorem isTuple_list (l : List PyData) : (PyData.list l).isTuple = false := rfl
@[simp] theorem isList_int (i : Int) : (PyData.int i).isList = false := rfl
@[simp] theorem isList_bool (i : Bool) : (PyData.bool i).isList = false := rfl
@[simp] theorem isList_none : PyData.none.isList = false := rfl
@[simp] theorem isList_str (i : Str) : (PyData.str i).isList = false := rfl
@[simp] theorem isList_tuple (l : List PyData) : (PyData.tuple l).isList = false := rfl
@[simp] theorem isList_list (l : List PyData) : (PyData.list l).isList = true := rfl

/-! ### compares -/
@[simp] theorem eqv_int (i j : Int) : PyData.eqv (.int i) (.int j) = decide (i = j) := by
  rw [PyData.eqv]
  by_cases h : i = j <;> simp [h]
@[simp] theorem eqv_bool (i j : Bool) : PyData.eqv (.bool i) (.bool j) = decide (i = j) := by
  rw [PyData.eqv]
  cases i <;> cases j <;> rfl
@[simp] theorem eqD_int (i j : Int) : eqD (.int i) (.int j) = some (.bool (decide (i = j))) := by
  simp [eqD, okEq]
@[simp] theorem eqD_bool (i j : Bool) : eqD (.bool i) (.bool j) = some (.bool (decide (i = j))) := by
  simp [eqD, okEq]
@[simp] theorem neD_bool (i j : Bool) : neD (.bool i) (.bool j) = some (.bool (!decide (i = j))) := by
  simp [neD, okEq]
@[simp] theorem neD_int (i j : Int) : neD (.int i) (.int j) = some (.bool (!decide (i = j))) := by
  simp [neD, okEq]
@[simp] theorem ltD_int (i j : Int) : ltD (.int i) (.int j) = some (.bool (decide (i < j))) := by
  simp [ltD, okLt, PySem.W.alike, PySem.W.dataLt_int]
@[simp] theorem gtD_int (i j : Int) : gtD (.int i) (.int j) = some (.bool (decide (j < i))) := by
  simp [gtD, okLt, PySem.W.alike, PySem.W.dataLt_int]
@[simp] theorem leD_int (i j : Int) : leD (.int i) (.int j) = some (.bool (decide (i ≤ j))) := by
  have e : (!decide (j < i)) = decide (i ≤ j) := by
    by_cases h : i ≤ j
    · simp [h, Int.not_lt.mpr h]
    · simp [h, Int.not_le.mp h]
  simp [leD, okLt, PySem.W.alike, PySem.W.dataLt_int, e]
@[simp] theorem geD_int (i j : Int) : geD (.int i) (.int j) = some (.bool (decide (j ≤ i))) := by
  have e : (!decide (i < j)) = decide (j ≤ i) := by
    by_cases h : j ≤ i
    · simp [h, Int.not_lt.mpr h]
    · simp [h, Int.not_le.mp h]
  simp [geD, okLt, PySem.W.alike, PySem.W.dataLt_int, e]
@[simp] theorem isD_none (d : PyData) : isD d .none = some (.bool (isNone d)) := rfl
@[simp] theorem isNone_none : isNone .none = true := rfl
@[simp] theorem isNone_int (i : Int) : isNone (.int i) = false := rfl
@[simp] theorem isNone_bool (i : Bool) : isNone (.bool i) = false := rfl
@[simp] theorem isNone_tuple (i : List PyData) : isNone (.tuple i) = false := rfl
@[simp] theorem isNone_list (i : List PyData) : isNone (.list i) = false := rfl
@[simp] theorem addD_int (i j : Int) : addD (.int i) (.int j) = some (.int (i + j)) := rfl
@[simp] theorem subD_int (i j : Int) : subD (.int i) (.int j) = some (.int (i - j)) := rfl
@[simp] theorem lenD_tuple (l : List PyData) : lenD [.tuple l] = some (.int l.length) := rfl
@[simp] theorem lenD_list (l : List PyData) : lenD [.list l] = some (.int l.length) := rfl
@[simp] theorem intD_int (i : Int) : intD [.int i] = some (.int i) := rfl
@[simp] theorem intD_bool (b : Bool) : intD [.bool b] = some (.int (if b = true then 1 else 0)) := by
  cases b <;> rfl
@[simp] theorem tupleD_list (l : List PyData) : tupleD [.list l] = some (.tuple l) := rfl
@[simp] theorem min2D_int (i j : Int) : min2D [.int i, .int j] = some (.int (if j < i then j else i)) := rfl

/-! ### numbers as data -/
def nD (n : Nat) : PyData := .int (n : Int)
def nT (l : List Nat) : PyData := .tuple (l.map nD)
def nL (l : List Nat) : PyData := .list (l.map nD)
@[simp] theorem plain_nD (n : Nat) : (nD n).plain = true := by simp [nD]
@[simp] theorem depth_nD (n : Nat) : (nD n).depth = 0 := by simp [nD]
@[simp] theorem plainAll_nD (l : List Nat) : PyData.plainAll (l.map nD) = true := plainAll_of fun d h => by
  obtain ⟨n, _, rfl⟩ := List.mem_map.mp h
  simp
@[simp] theorem depthAll_nD (l : List Nat) : PyData.depthAll (l.map nD) = 0 := Nat.le_zero.mp (depthAll_le fun d h => by
  obtain ⟨n, _, rfl⟩ := List.mem_map.mp h
  simp)
@[simp] theorem plainAll_ints (l : List Int) : PyData.plainAll (l.map PyData.int) = true := plainAll_of fun d h => by
  obtain ⟨n, _, rfl⟩ := List.mem_map.mp h
  simp
@[simp] theorem depthAll_ints (l : List Int) : PyData.depthAll (l.map PyData.int) = 0 := Nat.le_zero.mp (depthAll_le fun d h => by
  obtain ⟨n, _, rfl⟩ := List.mem_map.mp h
  simp)
@[simp] theorem any_nD (l : List Nat) (n : Nat) : ((l.map nD).any fun y => PyData.eqv y (nD n)) = decide (n ∈ l) := by
  induction l with
  | nil => simp
  | cons x l ih =>
    rw [List.map_cons, List.any_cons, ih]
    simp only [nD, eqv_int]
    by_cases h : (x : Int) = (n : Int)
    · have : n = x := by omega
      simp [h, this]
    · have : n ≠ x := by omega
      simp [h, this]
@[simp] theorem inD_nT (l : List Nat) (n : Nat) : inD (nD n) (.tuple (l.map nD)) = some (.bool (decide (n ∈ l))) := by
  simp only [inD, isIn, okIn, any_nD]; simp
@[simp] theorem inD_nL (l : List Nat) (n : Nat) : inD (nD n) (.list (l.map nD)) = some (.bool (decide (n ∈ l))) := by
  simp only [inD, isIn, okIn, any_nD]; simp
@[simp] theorem notInD_nT (l : List Nat) (n : Nat) : notInD (nD n) (.tuple (l.map nD)) = some (.bool (!decide (n ∈ l))) := by
  simp only [notInD, isIn, okIn, any_nD]; simp
@[simp] theorem notInD_nL (l : List Nat) (n : Nat) : notInD (nD n) (.list (l.map nD)) = some (.bool (!decide (n ∈ l))) := by
  simp only [notInD, isIn, okIn, any_nD]; simp
theorem boolsOf_map {α : Type} (f : α → Bool) (l : List α) : boolsOf (l.map fun a => .bool (f a)) = some (l.map f) := by
  induction l with
  | nil => rfl
  | cons x l ih => simp [boolsOf, ih]
@[simp] theorem allD_map {α : Type} (f : α → Bool) (l : List α) : allD [.list (l.map fun a => .bool (f a))] = some (.bool (l.all f)) := by
  simp only [allD, boolsOf_map, Option.map_some, List.all_map]
  rfl
@[simp] theorem anyD_map {α : Type} (f : α → Bool) (l : List α) : anyD [.list (l.map fun a => .bool (f a))] = some (.bool (l.any f)) := by
  simp only [anyD, boolsOf_map, Option.map_some, List.any_map]
  rfl
theorem ixN_nat {n k : Nat} (h : k < n) : ixN n (k : Int) = some k := by
  unfold ixN
  rw [if_pos (by omega), if_pos (by omega), Int.toNat_natCast]
theorem atI_nat {α : Type} {l : List α} {k : Nat} (h : k < l.length) : atI l (k : Int) = some l[k] := by
  unfold atI
  rw [ixN_nat h]
  simp [h]
theorem ixD_tuple {l : List PyData} {k : Nat} (h : k < l.length) : ixD (.tuple l) (.int (k : Int)) = some l[k] := atI_nat h
theorem ixD_list {l : List PyData} {k : Nat} (h : k < l.length) : ixD (.list l) (.int (k : Int)) = some l[k] := atI_nat h
theorem rngD_nat (n : Nat) : rngD 0 ((n : Int)).toNat = (List.range n).map nD := by
  unfold rngD
  rw [Int.toNat_natCast]
  apply List.map_congr_left
  intro a _
  simp [nD]
end PD
end
section
set_option Elab.async false
set_option linter.all false
set_option maxRecDepth 100000
set_option maxHeartbeats 4000000
/-! PM2: sorted rows of numbers; what is a permutation of numbers. -/
namespace PD
open PySem PySem.Spec PyProof.Rows L2
def unD : PyData → Nat
  | .int i => i.toNat
  | _ => 0
@[simp] theorem unD_nD (n : Nat) : unD (nD n) = n := by simp [unD, nD]
theorem nD_of_mem {l : List Nat} {d : PyData} (h : d ∈ l.map nD) : nD (unD d) = d := by
  obtain ⟨n, _, rfl⟩ := List.mem_map.mp h
  simp
theorem of_perm {out : List PyData} {l : List Nat} (h : out.Perm (l.map nD)) : ∃ o : List Nat, out = o.map nD ∧ o.Perm l := by
  refine ⟨out.map unD, ?_, ?_⟩
  · rw [List.map_map]
    have go : ∀ m : List PyData, (∀ d ∈ m, nD (unD d) = d) → m = m.map (nD ∘ unD) := fun m => by
      induction m with
      | nil => exact fun _ => rfl
      | cons d m ih =>
        intro hm
        rw [List.map_cons, ← ih fun x hx => hm x (List.mem_cons_of_mem _ hx)]
        show _ = nD (unD d) :: m
        rw [hm d List.mem_cons_self]
    exact go out fun d hd => nD_of_mem (h.subset hd)
  · have := h.map unD
    rw [List.map_map] at this
    have e : (unD ∘ nD) = id := by funext n; simp
    rw [e, List.map_id] at this
    exact this
theorem le_nD (a b : Nat) : PySem.W.dataLe false id (nD a) (nD b) = decide (a ≤ b) := by
  have e : PySem.W.dataLe false id (nD a) (nD b) = !PySem.W.dataLt (nD b) (nD a) := rfl
  rw [e, nD, nD, PySem.W.dataLt_int]
  by_cases h : a ≤ b
  · simp [h]
  · simp [h]; omega
theorem sorted_nD (l : List Nat) : ∃ m : List Nat, sortedD [.list (l.map nD)] = some (m.map nD) ∧ m.Perm l ∧ m.Pairwise (· ≤ ·) := by
  have ok : okSort (l.map nD) = true := by
    have h3 : (l.map nD).all (fun a => (l.map nD).all fun b => PySem.W.alike a b) = true := List.all_eq_true.mpr fun a ha => List.all_eq_true.mpr fun b hb => by
      obtain ⟨m, _, rfl⟩ := List.mem_map.mp ha
      obtain ⟨n, _, rfl⟩ := List.mem_map.mp hb
      simp [nD, PySem.W.alike]
    have h4 : (l.map nD).all nonTup = true := List.all_eq_true.mpr fun a ha => by
      obtain ⟨m, _, rfl⟩ := List.mem_map.mp ha
      rfl
    have h5 : (l.map nD).all (fun d => decide (d.depth ≤ 60)) = true := List.all_eq_true.mpr fun a ha => by
      obtain ⟨m, _, rfl⟩ := List.mem_map.mp ha
      simp
    unfold okSort
    rw [h3, h4, h5, plainAll_nD]
    simp
  have e : sortD (l.map nD) = (l.mergeSort fun a b => decide (a ≤ b)).map nD := (List.map_mergeSort fun a _ b _ => (le_nD a b).symm).symm
  refine ⟨l.mergeSort fun a b => decide (a ≤ b), by simp only [sortedD, ok, if_true, e], List.mergeSort_perm _ _, ?_⟩
  have := List.pairwise_mergeSort (le := fun a b : Nat => decide (a ≤ b)) (fun a b c h1 h2 => by simp at *; omega) (fun a b => by simp; omega) l
  exact this.imp fun h => by simpa using h
/-- the rising row of what stands in a row once -/
theorem sorted_rise {l : List Nat} (nd : l.Nodup) : ∃ m : List Nat, sortedD [.list (l.map nD)] = some (m.map nD) ∧ m.Pairwise (· < ·) ∧ ∀ x, x ∈ m ↔ x ∈ l := by
  obtain ⟨m, h1, h2, h3⟩ := sorted_nD l
  refine ⟨m, h1, ?_, fun x => h2.mem_iff⟩
  have nm : m.Nodup := h2.nodup_iff.mpr nd
  exact (h3.and nm).imp fun h => Nat.lt_of_le_of_ne h.1 h.2
end PD
end
section
set_option Elab.async false
set_option linter.all false
set_option maxRecDepth 100000
set_option maxHeartbeats 4000000
/-! PM3: rows of numbers by their order, the least of such; dicts with numbers for keys. -/
namespace PD
open PySem PySem.Spec PySem.SeqAt PySem.W PyProof.Rows L2
def lx : List Nat → List Nat → Bool
  | [], [] => false
  | [], _ :: _ => true
  | _ :: _, [] => false
  | x :: xs, y :: ys => if x = y then lx xs ys else decide (x < y)
theorem lx_toks : ∀ xs ys : List Nat, PyProof.Rows.lexLt itemOrd (PySem.W.keyToksAll (xs.map nD)) (PySem.W.keyToksAll (ys.map nD)) = lx xs ys := fun xs ys => by
  have e : ∀ l : List Nat, l.map nD = (l.map Int.ofNat).map PySem.W.Datum.toD := fun l => by rw [List.map_map]; rfl
  rw [e, e, PySem.W.lexAll_map]
  induction xs generalizing ys with
  | nil => cases ys <;> rfl
  | cons x xs ih =>
    cases ys with
    | nil => rfl
    | cons y ys =>
      have ih := ih ys
      show (if (x : Int) = (y : Int) then PySem.W.listLt (xs.map Int.ofNat) (ys.map Int.ofNat) else decide ((x : Int) < (y : Int))) = (if x = y then lx xs ys else decide (x < y))
      rw [ih]
      by_cases h : x = y
      · rw [if_pos h, if_pos (by omega)]
      · rw [if_neg h, if_neg (by omega)]
        exact decide_eq_decide.mpr (by omega)
theorem lt_nT (l m : List Nat) : PySem.W.dataLt (nT l) (nT m) = lx l m := by
  rw [nT, nT, PySem.W.dataLt_tuple, lx_toks]
theorem lx_self : ∀ l : List Nat, lx l l = false
  | [] => rfl
  | x :: l => by rw [lx, if_pos rfl]; exact lx_self l
theorem lx_trans : ∀ a b c : List Nat, lx a b = true → lx b c = true → lx a c = true
  | [], [], _, h, _ => by cases h
  | [], _ :: _, [], _, h => by cases h
  | [], _ :: _, _ :: _, _, _ => rfl
  | _ :: _, [], _, h, _ => by cases h
  | _ :: _, _ :: _, [], _, h => by cases h
  | x :: a, y :: b, z :: c, h, g => by
    rw [lx] at h g ⊢
    by_cases e1 : x = y
    · rw [if_pos e1] at h
      by_cases e2 : y = z
      · rw [if_pos e2] at g
        rw [if_pos (by omega)]
        exact lx_trans a b c h g
      · rw [if_neg e2] at g
        rw [if_neg (by omega)]
        simp at g ⊢; omega
    · rw [if_neg e1] at h
      by_cases e2 : y = z
      · rw [if_neg (by omega)]
        simp at h ⊢; omega
      · rw [if_neg e2] at g
        simp at h g
        rw [if_neg (by omega)]
        simp; omega
theorem lx_total : ∀ a b : List Nat, lx a b = false → lx b a = false → a = b
  | [], [], _, _ => rfl
  | [], _ :: _, h, _ => by cases h
  | _ :: _, [], _, h => by cases h
  | x :: a, y :: b, h, g => by
    rw [lx] at h g
    by_cases e1 : x = y
    · rw [if_pos e1] at h
      rw [if_pos e1.symm] at g
      rw [e1, lx_total a b h g]
    · rw [if_neg e1] at h
      rw [if_neg (fun z => e1 z.symm)] at g
      simp at h g
      omega
theorem lx_down {u v w : List Nat} (h : lx u v = false) (g : lx w u = false) : lx w v = false := by
  cases e : lx w v with
  | false => rfl
  | true =>
    cases e2 : lx v u with
    | true => rw [lx_trans w v u e e2] at g; cases g
    | false => rw [lx_total u v h e2] at g; rw [g] at e; cases e
structure Least (P : List Nat → Prop) (r : List Nat) : Prop where
  mem : P r
  le : ∀ r', P r' → lx r' r = false
theorem Least.uniq {P : List Nat → Prop} {r s : List Nat} (h : Least P r) (g : Least P s) : r = s := lx_total _ _ (g.le r h.mem) (h.le s g.mem)
/-- the same further on: neither is a beginning of the other -/
theorem lx_app : ∀ (a b s t : List Nat), lx a b = false → (b <+: a → b = a) → (b = a → lx s t = false) → lx (a ++ s) (b ++ t) = false
  | [], [], s, t, _, _, k => k rfl
  | [], _ :: _, _, _, h, _, _ => by cases h
  | x :: a, [], _, _, _, p, _ => by cases p (List.nil_prefix)
  | x :: a, y :: b, s, t, h, p, k => by
    rw [lx] at h
    show lx (x :: (a ++ s)) (y :: (b ++ t)) = false
    rw [lx]
    by_cases e : x = y
    · subst e
      rw [if_pos rfl] at h ⊢
      refine lx_app a b s t h (fun q => ?_) fun q => k (by rw [q])
      have := p (List.prefix_cons_inj x |>.mpr q)
      exact (List.cons.inj this).2
    · rw [if_neg e] at h ⊢
      exact h
def mnF (x : List Nat) (l : List (List Nat)) : List Nat := l.foldl (fun a y => if lx y a = true then y else a) x
def mnL : List (List Nat) → List Nat
  | [] => []
  | x :: l => mnF x l
theorem mnF_ok : ∀ (l : List (List Nat)) (x : List Nat), (mnF x l = x ∨ mnF x l ∈ l) ∧ lx x (mnF x l) = false ∧ ∀ y ∈ l, lx y (mnF x l) = false
  | [], x => ⟨.inl rfl, lx_self x, fun y h => nomatch h⟩
  | y :: l, x => by
    have down : ∀ {u v w : List Nat}, lx u v = false → lx w u = false → lx w v = false := fun {u v w} h g => by
      cases e : lx w v with
      | false => rfl
      | true =>
        cases e2 : lx v u with
        | true => rw [lx_trans w v u e e2] at g; cases g
        | false => rw [lx_total u v h e2] at g; rw [g] at e; cases e
    obtain ⟨h1, h2, h3⟩ := mnF_ok l (if lx y x = true then y else x)
    show (mnF (if lx y x = true then y else x) l = x ∨ mnF (if lx y x = true then y else x) l ∈ y :: l) ∧ lx x (mnF (if lx y x = true then y else x) l) = false ∧ ∀ z ∈ y :: l, lx z (mnF (if lx y x = true then y else x) l) = false
    by_cases e : lx y x = true
    · rw [if_pos e] at h1 h2 h3 ⊢
      have xy : lx x y = false := by
        cases q : lx x y with
        | false => rfl
        | true => have := lx_trans _ _ _ e q; rw [lx_self] at this; cases this
      refine ⟨.inr ?_, down h2 xy, fun z hz => ?_⟩
      · rcases h1 with q | q
        · rw [q]; exact List.mem_cons_self
        · exact List.mem_cons_of_mem _ q
      · rcases List.mem_cons.mp hz with q | q
        · rw [q]; exact h2
        · exact h3 z q
    · rw [if_neg e] at h1 h2 h3 ⊢
      refine ⟨?_, h2, fun z hz => ?_⟩
      · rcases h1 with q | q
        · exact .inl q
        · exact .inr (List.mem_cons_of_mem _ q)
      · rcases List.mem_cons.mp hz with q | q
        · rw [q]; exact down h2 (by simpa using e)
        · exact h3 z q
theorem mnL_ok {l : List (List Nat)} (h : l ≠ []) : mnL l ∈ l ∧ ∀ y ∈ l, lx y (mnL l) = false := by
  cases l with
  | nil => exact absurd rfl h
  | cons x l =>
    obtain ⟨h1, h2, h3⟩ := mnF_ok l x
    refine ⟨?_, fun y hy => ?_⟩
    · rcases h1 with q | q
      · show mnF x l ∈ _
        rw [q]; exact List.mem_cons_self
      · exact List.mem_cons_of_mem _ q
    · rcases List.mem_cons.mp hy with q | q
      · rw [q]; exact h2
      · exact h3 y q
theorem minD_nT (l : List (List Nat)) : ∀ x, PySem.W.minD (nT x) (l.map nT) = nT (mnF x l) := by
  unfold PySem.W.minD mnF
  induction l with
  | nil => exact fun _ => rfl
  | cons y l ih =>
    intro x
    rw [List.map_cons, List.foldl_cons, List.foldl_cons]
    have e : (if PySem.W.dataLt (nT y) (nT x) = true then nT y else nT x) = nT (if lx y x = true then y else x) := by
      rw [lt_nT]; split <;> rfl
    rw [e]
    exact ih _
theorem alikeAll_nD : ∀ xs ys : List Nat, PySem.W.alikeAll (xs.map nD) (ys.map nD) = true
  | [], _ => by rw [List.map_nil, PySem.W.alikeAll]
  | _ :: _, [] => by rw [List.map_nil, List.map_cons, PySem.W.alikeAll]
  | x :: xs, y :: ys => by
    rw [List.map_cons, List.map_cons, PySem.W.alikeAll, alikeAll_nD xs ys]
    simp [nD, PySem.W.alike]
theorem alike_nT (l m : List Nat) : PySem.W.alike (nT l) (nT m) = true := by
  simp only [nT, PySem.W.alike]; exact alikeAll_nD l m
theorem okMin_nT {l : List (List Nat)} (h : l ≠ []) : okMin (l.map nT) = true := by
  cases l with
  | nil => exact absurd rfl h
  | cons x l =>
    have h1 : PyData.plainAll ((x :: l).map nT) = true := plainAll_of fun d h => by
      obtain ⟨l, _, rfl⟩ := List.mem_map.mp h
      simp [nT]
    have h2 : PyData.depthAll ((x :: l).map nT) ≤ 60 := depthAll_le fun d h => by
      obtain ⟨l, _, rfl⟩ := List.mem_map.mp h
      simp [nT]
    have h3 : ((x :: l).map nT).all (fun a => ((x :: l).map nT).all fun b => PySem.W.alike a b) = true := List.all_eq_true.mpr fun a ha => List.all_eq_true.mpr fun b hb => by
      obtain ⟨m, _, rfl⟩ := List.mem_map.mp ha
      obtain ⟨n, _, rfl⟩ := List.mem_map.mp hb
      exact alike_nT m n
    have h4 : ((x :: l).map nT).all (fun a => !(isNone a)) = true := List.all_eq_true.mpr fun a ha => by
      obtain ⟨m, _, rfl⟩ := List.mem_map.mp ha
      rfl
    show (PyData.plainAll ((x :: l).map nT) && ((x :: l).map nT).all (fun a => ((x :: l).map nT).all fun b => PySem.W.alike a b) && ((x :: l).map nT).all (fun a => !(isNone a)) && decide (PyData.depthAll ((x :: l).map nT) ≤ 60)) = true
    rw [h1, h3, h4, decide_eq_true h2]
    rfl
theorem minOf_nT {l : List (List Nat)} (h : l ≠ []) : minOfD [.list (l.map nT)] = some (nT (mnL l)) := by
  cases l with
  | nil => exact absurd rfl h
  | cons x l =>
    have := okMin_nT (l := x :: l) (by simp)
    unfold minOfD
    rw [List.map_cons] at this ⊢
    simp only [this, if_true, minD_nT]
    rfl
/-! ### a dict with numbers for keys -/
theorem same_nD (m n : Nat) : sameK (nD m) (nD n) ↔ n = m := by
  have h := @same_k (.inl (m : Int)) (.inl (n : Int))
  have h : sameK (nD m) (nD n) ↔ (Sum.inl (n : Int) : Key) = Sum.inl (m : Int) := h
  rw [h]
  constructor
  · intro e; injection e with e; omega
  · intro e; rw [e]
def dN (o : List Nat) (f : Nat → PyData) : List (PyData × PyData) := o.map fun i => (nD i, f i)
theorem look_dN (o : List Nat) (f : Nat → PyData) (x : Nat) : lookD (nD x) (dN o f) = if x ∈ o then some (f x) else none := by
  induction o with
  | nil => rfl
  | cons y o ih =>
    show (if sameK (nD x) (nD y) then some (f y) else lookD (nD x) (dN o f)) = _
    rw [ih]
    by_cases h : y = x
    · rw [if_pos ((same_nD x y).mpr h), h, if_pos List.mem_cons_self]
    · rw [if_neg fun z => h ((same_nD x y).mp z)]
      by_cases q : x ∈ o
      · rw [if_pos q, if_pos (List.mem_cons_of_mem _ q)]
      · rw [if_neg q, if_neg fun z => q ((List.mem_cons.mp z).resolve_left fun e => h e.symm)]
theorem ins_dN {o : List Nat} {f : Nat → PyData} {x : Nat} {d : PyData} (h : x ∉ o) : insD (nD x) d (dN o f) = dN o f ++ [(nD x, d)] := by
  unfold insD
  rw [if_neg]
  intro e
  obtain ⟨q, hq, e⟩ := List.any_eq_true.mp e
  obtain ⟨y, hy, rfl⟩ := List.mem_map.mp hq
  have := (same_nD x y).mp (by simpa using e)
  subst this
  exact h hy
theorem fits_nD (x : Nat) : keyFits false (nD x) = true := rfl
theorem ix_dN {o : List Nat} {f : Nat → PyData} {x : Nat} (h : x ∈ o) : ixD (dicD false (dN o f)) (nD x) = some (f x) := by
  show (if keyFits false (nD x) = true then lookD (nD x) (dN o f) else none) = _
  rw [if_pos (fits_nD x), look_dN, if_pos h]
end PD
end
section
set_option Elab.async false
set_option linter.all false
set_option maxRecDepth 100000
set_option maxHeartbeats 4000000
/-! PD19: the law's own frame: the hand is made of the script. -/
namespace PD
open PySem PySem.Spec PyProof.Rows L2

def absI (n : Int) : Int := if n < 0 then -n else n
/-- the hand is made -/
def spHand (K : PySem.W.Frag) : Sp := fun vs H Q _ => ∃ (a : Addr) (ns : List Int), vs = [.ref a] ∧ SqL K H a (ns.map V.int) ∧ ns.length ≤ 63 ∧
  ∀ (H' : Hp) (b c : Addr) (z : Int), H' b = some (.lst [.ref c, .int 0, .int 0, .int z, .int 0]) → H' c = some (.lst ((ns.map absI).map V.int)) → 0 ≤ z → Q (.ref b) H'
def tAbs2 : PTE := tCl absD (tCnL (tOf (tCl intD (tCnL (tSl 2) tNlL))) tNlL)
def tHandRet : PTS := (tSq (tRt false (tLs (tCn (tVr 1) (tCn (tK (.int 0)) (tCn (tK (.int 0)) (tCn (tBin addD (tOf (tK (.int 1049))) (tOf (tBin mulD (tOf (tK (.int 61))) (tOf (tCl lenD (tCnL (tSl 1) tNlL)))))) (tCn (tK (.int 0)) tNl)))))))
  tNx)
theorem cutV_all {xs : List V} (h : xs.length ≤ 63) : L2.cutV xs none (some 63) = xs := by
  unfold L2.cutV
  rw [HT.sIx_none, show (some (63 : Int)) = some ((63 : Nat) : Int) from rfl, HT.sIx_nat, Nat.min_eq_right h, List.drop_zero, Nat.sub_zero, List.take_of_length_le (Nat.le_refl _)]
section
variable {K : PySem.W.Frag} {O : Ow} {H : Hp}
theorem Rl.bare {σ : L2.St} {G : List Sl} (hl : G.length = σ.length) (hs : ∀ (i : Nat) (S : Sl), G[i]? = some S → SlOk K ⟨none, H, fun _ => False⟩ (fun _ => False) H σ[i]? S) (hm : ∀ (i : Nat) (d : PyData), G[i]? ≠ some (.m d)) : Rl K ⟨none, H, fun _ => False⟩ (fun _ => False) σ H ⟨G, []⟩ :=
  ⟨hl, hs, fun i _ d _ _ e => absurd e (hm i d), (fun _ e => nomatch e), fun _ _ e _ => e, fun _ z => False.elim z, fun _ z => z, fun _ z => False.elim z, fun _ z => False.elim z⟩
theorem atL_ints (l : List Int) : AtL K O H (l.map V.int) (l.map PyData.int) := by
  induction l with
  | nil => exact .nil
  | cons x l ih => exact .cons (.int _) ih
theorem kp_all {O' : Ow} {H' : Hp} (k : Kp (fun _ => False) H O' H') : ∀ b o, H b = some o → H' b = some o := fun b o e => k.st b o e fun z => z
theorem hand_read {D : Ends} {Q : VK} {E : XK} {a : Addr} (h : spHand K [.ref a] H Q E) (hD : D.rt = Q) :
    tSeq (tAsg (tLc (iList K (L2.tSl (rSlL K) (tVar 0) tNoPart (tPart (tC (.int 63))))) (gName 2) tYes (lift K tAbs2) [2]) (gName 1)) (liftS K tHandRet) D [some (.ref a), none, none] H := by
  obtain ⟨a', ns, ev, hs, hl, q⟩ := h
  cases ev
  refine ⟨.ref a, rfl, 63, rfl, a, ns.map V.int, rfl, hs, fun p hp => ?_⟩
  rw [cutV_all (by simpa using hl)]
  refine ⟨p, rfl, ⟨_, SqL.of upd_same⟩, fun d hd => ?_⟩
  have pd : p ≠ d := fun e => by rw [e, upd_same] at hd; cases hd
  refine lc_list (xs := ns.map V.int) (fun i H' => H' p = some (.lst (ns.map V.int)) ∧ H' d = some (.lst (((ns.take i).map absI).map V.int))) ⟨by rw [upd_ne pd, upd_same], by rw [upd_same]; rfl⟩ (fun i H' _ w => SqL.of w.1) (fun i x H' hx w => ?_) fun H' w => ?_
  · have hi : i < ns.length := by simpa using (List.getElem?_eq_some_iff.mp hx).1
    rw [List.getElem?_map, List.getElem?_eq_getElem hi] at hx
    cases hx
    refine ⟨rfl, ?_⟩
    simp only [L2.tYes, if_true]
    refine ⟨_, _, ⟨[.no, .no, .v (.int ns[i])], []⟩, Rl.bare rfl (fun j S e => ?_) (fun j e z => ?_), ?_⟩
    · match j, e with
      | 0, e => cases e; trivial
      | 1, e => cases e; trivial
      | 2, e => cases e; exact ⟨_, rfl, .int _⟩
      | j + 3, e => cases e
    · match j, z with
      | 0, z => cases z
      | 1, z => cases z
      | 2, z => cases z
      | j + 3, z => cases z
    · simp [tAbs2, absD]
      intro v O' H2 R2 k2 av
      cases av
      refine ⟨_, kp_all k2 d _ w.2, by simp [sizeLine]; omega, by rw [upd_ne pd]; exact kp_all k2 p _ w.1, ?_⟩
      have e3 : List.take (i + 1) (List.map (V.int ∘ absI) ns) = List.map V.int (List.map absI (List.take i ns)) ++ [V.int (absI ns[i])] := by
        rw [List.map_map, ← List.map_take, List.take_succ_eq_append_getElem hi, List.map_append]
        rfl
      rw [upd_same, e3]
      rfl
  · have e : (ns.map V.int).length = ns.length := by simp
    rw [e, List.take_of_length_le (Nat.le_refl _)] at w
    refine ⟨_, _, ⟨[.no, .v (.list ((ns.map absI).map .int)), .no], []⟩, Rl.bare rfl (fun j S e => ?_) (fun j e z => ?_), ?_⟩
    · match j, e with
      | 0, e => cases e; trivial
      | 1, e => cases e; exact ⟨_, rfl, .lst ⟨fun z => z, w.2⟩ (atL_ints _)⟩
      | 2, e => cases e; trivial
      | j + 3, e => cases e
    · match j, z with
      | 0, z => cases z
      | 1, z => cases z
      | 2, z => cases z
      | j + 3, z => cases z
    · simp [tHandRet]
      have m1 : mulD (.int 61) (.int (ns.length : Int)) = some (.int (61 * (ns.length : Int))) := by
        have : CMul 61 (ns.length : Int) := by unfold CMul; omega
        simp [mulD, this]
      refine ⟨_, m1, _, rfl, by simp [sizeLine], fun v σ' O' H2 R2 k2 av => ?_⟩
      have av : At K O' H2 v (.list [.list (ns.map (PyData.int ∘ absI)), .int 0, .int 0, .int (1049 + 61 * (ns.length : Int)), .int 0]) := av
      rw [hD]
      cases av with
      | lst s1 l1 =>
        cases l1 with
        | cons a1 l1 =>
          cases a1 with
          | lst s2 l2 =>
            cases l1 with
            | cons a2 l1 =>
              cases a2
              cases l1 with
              | cons a3 l1 =>
                cases a3
                cases l1 with
                | cons a4 l1 =>
                  cases a4
                  cases l1 with
                  | cons a5 l1 =>
                    cases a5
                    cases l1
                    rw [← List.map_map] at l2
                    have ex : ∀ (l : List Int) (xs : List V), AtL K O' H2 xs (l.map PyData.int) → xs = l.map V.int := fun l => by
                      induction l with
                      | nil => intro xs h; cases h; rfl
                      | cons y l ih => intro xs h; cases h with | cons h1 h2 => cases h1; rw [ih _ h2]; rfl
                    exact q H2 _ _ _ s1.2 (by rw [s2.2, ex _ _ l2]) (by omega)
end
end PD
end
section
set_option Elab.async false
set_option linter.all false
set_option maxRecDepth 100000
set_option maxHeartbeats 4000000
/-! PD20: the law's first statement: hand = _law_hand(script). -/
namespace PD
open PySem PySem.Spec PyProof.Rows L2
structure HandD (hd : List PyData) : Prop where
  ex : ∃ (cells : List Int) (i : Nat) (c s k : Int), hd = [.list (cells.map .int), .int i, .int c, .int s, .int k] ∧ (∀ x ∈ cells, 0 ≤ x) ∧ 0 ≤ c ∧ 0 ≤ s ∧ 0 ≤ k
/-- what a law is to end with -/
def lawEnds : PEnds := ⟨fun _ => False, fun fr d _ => fr = false ∧ d = .bool true, fun _ => False, fun _ => False⟩
def spLaw (K : PySem.W.Frag) : Sp := fun vs H Q _ => ∃ (a : Addr) (ns : List Int), vs = [.ref a] ∧ SqL K H a (ns.map V.int) ∧ ns.length ≤ 63 ∧ ∀ H', Q (.bl true) H'
theorem law_read {K : PySem.W.Frag} {H : Hp} {D : Ends} {Q : VK} {E : XK} {a : Addr} {ns : List Int} {u : PTS} {i m : Nat} (hu : MonoS u) (hs : SqL K H a (ns.map V.int)) (hl : ns.length ≤ 63) (hD : D.rt = Q) (hQ : ∀ H', Q (.bl true) H') (hi : i < m + 1)
    (hr : ∀ hd, HandD hd → u lawEnds ⟨(List.replicate (m + 1) .no).set i .h, hd⟩) :
    tSeq (tAsg (tCall (spHand K) [] E (tCons (tVar 0) L2.tNil)) (gName i)) (liftS K u) D (some (.ref a) :: List.replicate m none) H := by
  refine ⟨.ref a, rfl, a, ns, rfl, hs, hl, fun H' b c z hb hc hz => ?_⟩
  have bc : c ≠ b := fun e => by
    rw [e, hb] at hc
    injection hc with hc
    injection hc with hc
    cases ns with
    | nil => cases hc
    | cons x l => injection hc with h1 _; cases h1
  have get : ∀ (j : Nat) (S : Sl), ((List.replicate (m + 1) Sl.no).set i .h)[j]? = some S → S = .no ∨ (S = .h ∧ j = i) := fun j S e => by
    by_cases q : i = j
    · subst q
      rw [List.getElem?_set_self (by simpa using hi)] at e
      cases e; exact .inr ⟨rfl, rfl⟩
    · rw [List.getElem?_set_ne q, List.getElem?_replicate] at e
      split at e
      · cases e; exact .inl rfl
      · cases e
  show liftS K u D ((some (.ref a) :: List.replicate m none).set i (some (.ref b))) H'
  refine ⟨⟨some b, H', fun x => x = b⟩, fun x => x = b, ⟨(List.replicate (m + 1) .no).set i .h, [.list ((ns.map absI).map .int), .int 0, .int 0, .int z, .int 0]⟩,
    ⟨by simp, fun j S e => ?_, fun j l d d' x e1 _ _ _ => ?_, fun x e => ?_, fun x o e _ => e, fun x e => ?_, fun x e => e, fun x e => ?_, fun x e _ => e⟩, hu _ lawEnds _ ⟨fun s' z => False.elim z, fun fr d s' ⟨e1, e2⟩ v σ' O' H2 R2 k2 av => ?_, fun s' z => False.elim z, fun s' z => False.elim z⟩ (hr _ ⟨ns.map absI, 0, 0, z, 0, rfl, fun x hx => ?_, Int.le_refl _, hz, Int.le_refl _⟩)⟩
  · rcases get j S e with q | ⟨q1, q2⟩
    · subst q; trivial
    · subst q1 q2
      exact ⟨b, rfl, by rw [List.getElem?_set_self (by simpa using hi)]⟩
  · rcases get j _ e1 with q | ⟨q, _⟩ <;> cases q
  · cases e
    exact ⟨rfl, _, hb, .cons (.lst ⟨bc, hc⟩ (atL_ints _)) (.cons (.int _) (.cons (.int _) (.cons (.int _) (.cons (.int _) .nil))))⟩
  · have e : x = b := e
    rw [e, hb]; exact fun z => nomatch z
  · have e : x = b := e
    show H' x ≠ none
    rw [e, hb]; exact fun z => nomatch z
  · subst e1 e2
    rw [hD]
    have av : At K O' H2 v (.bool true) := av
    cases av
    exact hQ H2
  · obtain ⟨n, _, rfl⟩ := List.mem_map.mp hx
    unfold absI
    split <;> omega
end PD
end
section
set_option Elab.async false
set_option linter.all false
set_option maxRecDepth 100000
set_option maxHeartbeats 4000000
open PySem PySem.Spec PyProof.Rows L2 PD
namespace Lw
def t_is_integer : PTS :=
  (tSq (tRt false (tAnV (tIsa PyData.isInt (tSl 0)) (tNtV (tOf (tIsa PyData.isBool (tSl 0))))))
  tNx)
def t_is_within (S_is_integer : FSpec) : PTS :=
  (tSq (tRt false (tAnV (tFn S_is_integer (tCnV (tVr 0) tNlV)) (tChn leD leD (tSl 1) (tSl 0) (tSl 2))))
  tNx)
def t_is_sized : PTS :=
  (tSq (tRt false (tAnV (tIsa PyData.isTuple (tSl 0)) (tChn leD leD (tSl 1) (tOf (tCl lenD (tCnL (tSl 0) tNlL))) (tSl 2))))
  tNx)
def t_are_rising : PTS :=
  (tSq (tRt false (tCl allD (tCnL (tOf (tComp (tZp (tCn (tVr 0) (tCn (tSlc slD (tSl 0) (tPrt (tK (.int 1))) tNoP) tNl))) (gTu 2 (gCo (gN 1) (gCo (gN 2) gNi))) tYs (tBin ltD (tSl 1) (tSl 2)) [1, 2])) tNlL)))
  tNx)
def t_is_lot (S_is_within S_are_rising : FSpec) : PTS :=
  (tSq (tIfc (tOr (tNt (tBo (tIsa PyData.isTuple (tSl 0)))) (tNt (tBo (tCl allD (tCnL (tOf (tComp (tWkL (tSl 0)) (gN 2) tYs (tFn S_is_within (tCnV (tVr 2) (tCnV (tK (.int 0)) (tCnV (tBin subD (tSl 1) (tOf (tK (.int 1)))) tNlV)))) [2])) tNlL))))) (tSq (tRt false (tK (.bool false)))
  tNx) tNx)
  (tSq (tRt false (tFn S_are_rising (tCnV (tVr 0) tNlV)))
  tNx))
def t_are_stages (S_is_sized S_is_lot : FSpec) : PTS :=
  (tSq (tIfc (tOr (tNt (tBo (tFn S_is_sized (tCnV (tVr 0) (tCnV (tK (.int 1)) (tCnV (tK (.int 10)) tNlV)))))) (tNt (tBo (tCl allD (tCnL (tOf (tComp (tWkL (tSl 0)) (gN 1) tYs (tFn S_is_lot (tCnV (tVr 1) (tCnV (tCl lenD (tCnL (tSl 0) tNlL)) tNlV))) [1])) tNlL))))) (tSq (tRt false (tK (.bool false)))
  tNx) tNx)
  (tSq (tRt false (tNtV (tOf (tCl anyD (tCnL (tOf (tComp (tEn (tCn (tVr 0) tNl)) (gTu 2 (gCo (gN 2) (gCo (gN 1) gNi))) tYs (tBin inD (tSl 2) (tSl 1)) [2, 1])) tNlL)))))
  tNx))
def t_check_stages (S_are_stages : FSpec) : PTS :=
  (tSq (tIfc (tNt (tBo (tFn S_are_stages (tCnV (tVr 0) tNlV)))) (tSq (fun _ _ => False)
  tNx) tNx)
  tNx)
def t_least_order : PTS :=
  (tSq (tAs true (tLs tNl) 1)
  (tSq (tWh (tBo (tBin ltD (tOf (tCl lenD (tCnL (tSl 1) tNlL))) (tOf (tCl lenD (tCnL (tSl 0) tNlL))))) (tSq (tAs true (tComp (tRg1 (tCn (tCl lenD (tCnL (tSl 0) tNlL)) tNl)) (gN 3) (tAn (tBo (tBin notInD (tSl 3) (tSl 1))) (tBo (tCl allD (tCnL (tOf (tComp (tWk (tBin ixD (tSl 0) (tSl 3))) (gN 4) tYs (tBin inD (tSl 4) (tSl 1)) [4])) tNlL)))) (tVr 3) [3]) 2)
  (tSq (tIfc (tBo (tBin eqD (tOf (tCl lenD (tCnL (tSl 2) tNlL))) (tOf (tK (.int 0))))) (tSq (tRt false (tK .none))
  tNx) tNx)
  (tSq (tEx (tApp 1 (tBin ixD (tSl 2) (tOf (tK (.int 0))))))
  tNx))))
  (tSq (tRt false (tCl tupleD (tCnL (tSl 1) tNlL)))
  tNx)))
def t_check_ringless (S_check_stages S_least_order : FSpec) : PTS :=
  (tSq (tEx (tFn S_check_stages (tCnV (tVr 0) tNlV)))
  (tSq (tAs false (tFn S_least_order (tCnV (tVr 0) tNlV)) 1)
  (tSq (tIfc (tBo (tBin isD (tSl 1) (tOf (tK .none)))) (tSq (fun _ _ => False)
  tNx) tNx)
  (tSq (tRt false (tVr 1))
  tNx))))
def t_check_times (S_is_within S_is_sized S_check_ringless : FSpec) : PTS :=
  (tSq (tAs false (tFn S_check_ringless (tCnV (tVr 0) tNlV)) 2)
  (tSq (tIfc (tOr (tNt (tBo (tFn S_is_sized (tCnV (tVr 1) (tCnV (tCl lenD (tCnL (tSl 0) tNlL)) (tCnV (tCl lenD (tCnL (tSl 0) tNlL)) tNlV)))))) (tNt (tBo (tCl allD (tCnL (tOf (tComp (tWkL (tSl 1)) (gN 3) tYs (tFn S_is_within (tCnV (tVr 3) (tCnV (tK (.int 0)) (tCnV (tK (.int 100)) tNlV)))) [3])) tNlL))))) (tSq (fun _ _ => False)
  tNx) tNx)
  (tSq (tRt false (tVr 2))
  tNx)))
def t_raw_ends : PTS :=
  (tSq (tAs true (tBin repL (tOf (tLs (tCn (tK (.int 0)) tNl))) (tOf (tCl lenD (tCnL (tSl 0) tNlL)))) 3)
  (tSq (tFo (tWk (tVr 2)) (gN 4) (tSq (tPut (tBin addD (tOf (tBin ixD (tSl 1) (tSl 4))) (tOf (tCl maxOfD (tCnL (tOf (tBin addD (tOf (tLs (tCn (tK (.int 0)) tNl))) (tOf (tComp (tWk (tBin ixD (tSl 0) (tSl 4))) (gN 5) tYs (tBin ixD (tSl 3) (tSl 5)) [5])))) tNlL)))) 3 (tVr 4))
  tNx))
  (tSq (tRtV 3)
  tNx)))
def t_ends_of (S_check_times S_raw_ends : FSpec) : PTS :=
  (tSq (tAs false (tFn S_check_times (tCnV (tVr 0) (tCnV (tVr 1) tNlV))) 2)
  (tSq (tRt false (tCl tupleD (tCnL (tOf (tFn S_raw_ends (tCnV (tVr 0) (tCnV (tVr 1) (tCnV (tVr 2) tNlV))))) tNlL)))
  tNx))
def t_rows_to (S_least_order : FSpec) : PTS :=
  (tSq (tAs true (tDn false) 3)
  (tSq (tFo (tWk (tFn S_least_order (tCnV (tVr 0) tNlV))) (gN 4) (tSq (tAs false (tBin subD (tOf (tBin ixD (tSl 2) (tSl 4))) (tOf (tBin ixD (tSl 1) (tSl 4)))) 5)
  (tSq (tAs true (tComp (tWk (tBin ixD (tSl 0) (tSl 4))) (gN 7) (tBo (tBin eqD (tOf (tBin ixD (tSl 2) (tSl 7))) (tSl 5))) (tBin addD (tOf (tBin ixD (tSl 3) (tSl 7))) (tOf (tTp (tCn (tVr 4) tNl)))) [7]) 6)
  (tSq (tPut (tCl minOfD (tCnL (tOf (tBin addD (tSl 6) (tOf (tBin mulD (tOf (tLs (tCn (tTp (tCn (tVr 4) tNl)) tNl))) (tOf (tCl intD (tCnL (tOf (tBin eqD (tSl 5) (tOf (tK (.int 0))))) tNlL))))))) tNlL)) 3 (tVr 4))
  tNx))))
  (tSq (tRtV 3)
  tNx)))
def t_longest_row (S_check_times S_raw_ends S_rows_to : FSpec) : PTS :=
  (tSq (tAs false (tFn S_check_times (tCnV (tVr 0) (tCnV (tVr 1) tNlV))) 2)
  (tSq (tAs false (tFn S_raw_ends (tCnV (tVr 0) (tCnV (tVr 1) (tCnV (tVr 2) tNlV)))) 3)
  (tSq (tAs false (tFn S_rows_to (tCnV (tVr 0) (tCnV (tVr 1) (tCnV (tVr 3) tNlV)))) 4)
  (tSq (tRt false (tTp (tCn (tCl maxOfD (tCnL (tSl 3) tNlL)) (tCn (tCl minOfD (tCnL (tOf (tComp (tRg1 (tCn (tCl lenD (tCnL (tSl 0) tNlL)) tNl)) (gN 5) (tBo (tBin eqD (tOf (tBin ixD (tSl 3) (tSl 5))) (tOf (tCl maxOfD (tCnL (tSl 3) tNlL))))) (tBin ixD (tSl 4) (tSl 5)) [5])) tNlL)) tNl))))
  tNx))))
def t_slacks_of (S_check_times S_raw_ends : FSpec) : PTS :=
  (tSq (tAs false (tFn S_check_times (tCnV (tVr 0) (tCnV (tVr 1) tNlV))) 2)
  (tSq (tAs false (tFn S_raw_ends (tCnV (tVr 0) (tCnV (tVr 1) (tCnV (tVr 2) tNlV)))) 3)
  (tSq (tAs true (tBin repL (tOf (tLs (tCn (tCl maxOfD (tCnL (tSl 3) tNlL)) tNl))) (tOf (tCl lenD (tCnL (tSl 0) tNlL)))) 4)
  (tSq (tFo (tWk (tBkD (tSl 2))) (gN 5) (tSq (tFo (tWk (tBin ixD (tSl 0) (tSl 5))) (gN 6) (tSq (tPut (tCl min2D (tCnL (tOf (tBin ixD (tSl 4) (tSl 6))) (tCnL (tOf (tBin subD (tOf (tBin ixD (tSl 4) (tSl 5))) (tOf (tBin ixD (tSl 1) (tSl 5))))) tNlL))) 4 (tVr 6))
  tNx))
  tNx))
  (tSq (tRt false (tCl tupleD (tCnL (tOf (tComp (tZp (tCn (tVr 4) (tCn (tVr 3) tNl))) (gTu 2 (gCo (gN 7) (gCo (gN 8) gNi))) tYs (tBin subD (tSl 7) (tSl 8)) [7, 8])) tNlL)))
  tNx)))))
def t__law_draw : PTS :=
  (tSq (tIfc (tAn (tBo (tBin eqD (tOf (tHix 0 (tK (.int 2)))) (tOf (tK (.int 0))))) (tBo (tBin ltD (tOf (tHix 0 (tK (.int 1)))) (tOf (tCl lenD (tCnL (tOf (tHix 0 (tK (.int 0)))) tNlL)))))) (tSq (tAs false (tBin ixD (tOf (tHix 0 (tK (.int 0)))) (tOf (tHix 0 (tK (.int 1))))) 2)
  (tSq (tPut (tBin addD (tOf (tHix 0 (tK (.int 1)))) (tOf (tK (.int 1)))) 0 (tK (.int 1)))
  (tSq (tPut (tBin modD (tOf (tCl intD (tCnL (tOf (tBin addD (tOf (tBin addD (tOf (tBin mulD (tOf (tHix 0 (tK (.int 3)))) (tOf (tK (.int 69621))))) (tOf (tBin mulD (tSl 2) (tOf (tK (.int 48271))))))) (tOf (tK (.int 17))))) tNlL))) (tOf (tK (.int 2147483629)))) 0 (tK (.int 3)))
  (tSq (tIfc (tBo (tBin geD (tSl 2) (tOf (tBin powD (tOf (tK (.int 10))) (tOf (tK (.int 18))))))) (tSq (tPut (tVr 2) 0 (tK (.int 2)))
  tNx) tNx)
  tNx)))) tNx)
  (tSq (tIfc (tBo (tBin gtD (tOf (tHix 0 (tK (.int 2)))) (tOf (tK (.int 0))))) (tSq (tAs false (tBin modD (tOf (tCl intD (tCnL (tOf (tHix 0 (tK (.int 2)))) tNlL))) (tSl 1)) 3)
  (tSq (tPut (tBin divD (tOf (tHix 0 (tK (.int 2)))) (tSl 1)) 0 (tK (.int 2)))
  (tSq (tRt false (tVr 3))
  tNx))) tNx)
  (tSq (tPut (tBin addD (tOf (tHix 0 (tK (.int 4)))) (tOf (tK (.int 1)))) 0 (tK (.int 4)))
  (tSq (tAs false (tBin modD (tOf (tCl intD (tCnL (tOf (tBin mulD (tOf (tCl intD (tCnL (tOf (tBin addD (tOf (tHix 0 (tK (.int 3)))) (tOf (tBin mulD (tOf (tK (.int 7919))) (tOf (tHix 0 (tK (.int 4)))))))) tNlL))) (tOf (tK (.int 40692))))) tNlL))) (tOf (tK (.int 2147483647)))) 4)
  (tSq (tAs false (tBin modD (tOf (tCl intD (tCnL (tOf (tBin mulD (tSl 4) (tOf (tBin addD (tOf (tBin divD (tSl 4) (tOf (tK (.int 1009))))) (tOf (tK (.int 69621))))))) tNlL))) (tOf (tK (.int 2147483647)))) 4)
  (tSq (tAs false (tBin modD (tOf (tCl intD (tCnL (tOf (tBin mulD (tSl 4) (tOf (tBin addD (tOf (tBin divD (tSl 4) (tOf (tK (.int 2003))))) (tOf (tK (.int 40014))))))) tNlL))) (tOf (tK (.int 2147483563)))) 4)
  (tSq (tRt false (tBin modD (tOf (tCl intD (tCnL (tOf (tBin divD (tSl 4) (tOf (tK (.int 16))))) tNlL))) (tSl 1)))
  tNx)))))))
def t__law_any (S__law_draw : FSpec) : PTS :=
  (tSq (tRt false (tBin ixD (tSl 1) (tOf (tFn S__law_draw (tCnH 0 (tCnV (tCl lenD (tCnL (tSl 1) tNlL)) tNlV))))))
  tNx)
def t__law_mixed (S__law_draw : FSpec) : PTS :=
  (tSq (tPr2 true true 2 3 (tMc true (tClF listD (tCnL (tSl 1) tNlL)) (tMc true (tLs tNl) tMn)))
  (tSq (tWh (tBo (tBin gtD (tOf (tCl lenD (tCnL (tSl 2) tNlL))) (tOf (tK (.int 0))))) (tSq (tEx (tApp 3 (tPopAt 2 (tFn S__law_draw (tCnH 0 (tCnV (tCl lenD (tCnL (tSl 2) tNlL)) tNlV))))))
  tNx))
  (tSq (tRtV 3)
  tNx)))
def t__law_same (S__law_same : FSpec) : PTS :=
  (tSq (tIfc (tOr (tBo (tIsa PyData.isTuple (tSl 1))) (tBo (tIsa PyData.isList (tSl 1)))) (tSq (tIfc (tOr (tBo (tBin neD (tOf (tIsa PyData.isTuple (tSl 0))) (tOf (tIsa PyData.isTuple (tSl 1))))) (tBo (tBin neD (tOf (tIsa PyData.isList (tSl 0))) (tOf (tIsa PyData.isList (tSl 1)))))) (tSq (tRt false (tK (.bool false)))
  tNx) tNx)
  (tSq (tRt false (tAnV (tBin eqD (tOf (tCl lenD (tCnL (tSl 0) tNlL))) (tOf (tCl lenD (tCnL (tSl 1) tNlL)))) (tCl allD (tCnL (tOf (tComp (tZp (tCn (tVr 0) (tCn (tVr 1) tNl))) (gTu 2 (gCo (gN 2) (gCo (gN 3) gNi))) tYs (tFn S__law_same (tCnV (tVr 2) (tCnV (tVr 3) tNlV))) [2, 3])) tNlL))))
  tNx)) tNx)
  (tSq (tIfc (tOr (tBo (tBin neD (tOf (tIsa PyData.isBool (tSl 0))) (tOf (tIsa PyData.isBool (tSl 1))))) (tBo (tBin neD (tOf (tBin isD (tSl 0) (tOf (tK .none)))) (tOf (tBin isD (tSl 1) (tOf (tK .none))))))) (tSq (tRt false (tK (.bool false)))
  tNx) tNx)
  (tSq (tRt false (tAnV (tBin eqD (tOf (tIsa PyData.isInt (tSl 0))) (tOf (tIsa PyData.isInt (tSl 1)))) (tBin eqD (tSl 0) (tSl 1))))
  tNx)))
def t__law_is_integer : PTS :=
  (tSq (tRt false (tAnV (tIsa PyData.isInt (tSl 0)) (tNtV (tOf (tIsa PyData.isBool (tSl 0))))))
  tNx)
def t__law_round_free (S__law_draw S__law_any S__law_mixed : FSpec) : PTS :=
  (tSq (tAs false (tBin addD (tOf (tK (.int 1))) (tOf (tFn S__law_draw (tCnH 0 (tCnV (tVr 1) tNlV))))) 2)
  (tSq (tPr2 false true 3 4 (tMc false (tFn S__law_mixed (tCnH 0 (tCnV (tLr (tVr 2)) tNlV))) (tMc true (tBin repL (tOf (tLs (tCn (tTp tNl) tNl))) (tSl 2)) tMn)))
  (tSq (tAs false (tFn S__law_any (tCnH 0 (tCnV (tLs (tCn (tK (.int 2)) (tCn (tK (.int 3)) (tCn (tK (.int 4)) tNl)))) tNlV))) 5)
  (tSq (tFo (tEn (tCn (tVr 3) tNl)) (gTu 2 (gCo (gN 6) (gCo (gN 7) gNi))) (tSq (tPut (tCl tupleD (tCnL (tOf (tClF sortedD (tCnL (tOf (tComp (tWk (tSlc slD (tSl 3) tNoP (tPrt (tVr 6)))) (gN 8) (tBo (tBin eqD (tOf (tFn S__law_draw (tCnH 0 (tCnV (tVr 5) tNlV)))) (tOf (tK (.int 0))))) (tVr 8) [8])) tNlL))) tNlL)) 4 (tVr 7))
  tNx))
  (tSq (tRt false (tCl tupleD (tCnL (tSl 4) tNlL)))
  tNx)))))
def t__law_order : PTS :=
  (tSq (tAs false (tLs tNl) 1)
  (tSq (tAs false (tK (.bool true)) 2)
  (tSq (tWh (tTr (tSl 2)) (tSq (tAs true (tComp (tRg1 (tCn (tCl lenD (tCnL (tSl 0) tNlL)) tNl)) (gN 4) (tBo (tCl allD (tCnL (tOf (tComp (tWk (tBin ixD (tSl 0) (tSl 4))) (gN 5) tYs (tBin inD (tSl 5) (tSl 1)) [5])) tNlL))) (tVr 4) [4]) 3)
  (tSq (tAs true (tComp (tWkL (tSl 3)) (gN 4) (tBo (tBin notInD (tSl 4) (tSl 1))) (tVr 4) [4]) 3)
  (tSq (tAs false (tBin gtD (tOf (tCl lenD (tCnL (tSl 3) tNlL))) (tOf (tK (.int 0)))) 2)
  (tSq (tAs false (tBin addD (tSl 1) (tOf (tSlc slD (tSl 3) tNoP (tPrt (tK (.int 1)))))) 1)
  tNx)))))
  (tSq (tRt false (tCl tupleD (tCnL (tSl 1) tNlL)))
  tNx))))
def t__law_ends (S__law_order : FSpec) : PTS :=
  (tSq (tAs true (tBin repL (tOf (tLs (tCn (tK (.int 0)) tNl))) (tOf (tCl lenD (tCnL (tSl 0) tNlL)))) 2)
  (tSq (tFo (tWk (tFn S__law_order (tCnV (tVr 0) tNlV))) (gN 3) (tSq (tPut (tBin addD (tOf (tCl maxOfD (tCnL (tOf (tBin addD (tOf (tLs (tCn (tK (.int 0)) tNl))) (tOf (tComp (tWk (tBin ixD (tSl 0) (tSl 3))) (gN 4) tYs (tBin ixD (tSl 2) (tSl 4)) [4])))) tNlL))) (tOf (tBin ixD (tSl 1) (tSl 3)))) 2 (tVr 3))
  tNx))
  (tSq (tRt false (tCl tupleD (tCnL (tSl 2) tNlL)))
  tNx)))
def t__law_times (S__law_draw S__law_any : FSpec) : PTS :=
  (tSq (tAs false (tFn S__law_any (tCnH 0 (tCnV (tLs (tCn (tK (.int 2)) (tCn (tK (.int 3)) (tCn (tK (.int 6)) (tCn (tK (.int 101)) tNl))))) tNlV))) 2)
  (tSq (tRt false (tCl tupleD (tCnL (tOf (tComp (tRg1 (tCn (tVr 1) tNl)) (gN 3) tYs (tFn S__law_draw (tCnH 0 (tCnV (tVr 2) tNlV))) [3])) tNlL)))
  tNx))
def t__law_rows : PTS :=
  (tSq (tPr2 true true 1 2 (tMc true (tLs tNl) (tMc true (tComp (tRg1 (tCn (tCl lenD (tCnL (tSl 0) tNlL)) tNl)) (gN 3) tYs (tTp (tCn (tVr 3) tNl)) [3]) tMn)))
  (tSq (tWh (tBo (tBin gtD (tOf (tCl lenD (tCnL (tSl 2) tNlL))) (tOf (tK (.int 0))))) (tSq (tAs false (tPop 2) 4)
  (tSq (tEx (tApp 1 (tVr 4)))
  (tSq (tEx (tExt 2 (tComp (tRg1 (tCn (tCl lenD (tCnL (tSl 0) tNlL)) tNl)) (gN 3) (tBo (tBin inD (tOf (tBin ixD (tSl 4) (tOf (tNg (tK (.int 1)))))) (tOf (tBin ixD (tSl 0) (tSl 3))))) (tBin addD (tSl 4) (tOf (tTp (tCn (tVr 3) tNl)))) [3])))
  tNx))))
  (tSq (tRtV 1)
  tNx)))
def t__law_with : PTS :=
  (tSq (tRt false (tBin addD (tOf (tBin addD (tOf (tSlc slD (tSl 0) tNoP (tPrt (tVr 1)))) (tOf (tTp (tCn (tBin addD (tOf (tBin ixD (tSl 0) (tSl 1))) (tSl 2)) tNl))))) (tOf (tSlc slD (tSl 0) (tPrt (tBin addD (tSl 1) (tOf (tK (.int 1))))) tNoP))))
  tNx)
def t__law_is_right (S_ends_of S_longest_row S_slacks_of S__law_draw S__law_same S__law_is_integer S__law_ends S__law_rows S__law_with : FSpec) : PTS :=
  (tSq (tAs false (tFn S__law_ends (tCnV (tVr 1) (tCnV (tVr 2) tNlV))) 3)
  (tSq (tPr2 false true 4 5 (tMc false (tCl maxOfD (tCnL (tSl 3) tNlL)) (tMc true (tLs tNl) tMn)))
  (tSq (tFo (tWk (tFn S__law_rows (tCnV (tVr 1) tNlV))) (gN 6) (tSq (tIfc (tAn (tBo (tBin eqD (tOf (tBin ixD (tSl 3) (tOf (tBin ixD (tSl 6) (tOf (tNg (tK (.int 1)))))))) (tSl 4))) (tBo (tBin eqD (tOf (tCl sumD (tCnL (tOf (tComp (tWkL (tSl 6)) (gN 7) tYs (tBin ixD (tSl 2) (tSl 7)) [7])) tNlL))) (tSl 4)))) (tSq (tEx (tApp 5 (tVr 6)))
  tNx) tNx)
  tNx))
  (tSq (tIfc (tNt (tBo (tFn S__law_same (tCnV (tLs (tCn (tFn S_ends_of (tCnV (tVr 1) (tCnV (tVr 2) tNlV))) (tCn (tFn S_longest_row (tCnV (tVr 1) (tCnV (tVr 2) tNlV))) tNl))) (tCnV (tLs (tCn (tVr 3) (tCn (tTp (tCn (tVr 4) (tCn (tCl minOfD (tCnL (tSl 5) tNlL)) tNl))) tNl))) tNlV))))) (tSq (tRt false (tK (.bool false)))
  tNx) tNx)
  (tSq (tAs false (tFn S_slacks_of (tCnV (tVr 1) (tCnV (tVr 2) tNlV))) 8)
  (tSq (tIfc (tOr (tNt (tBo (tIsa PyData.isTuple (tSl 8)))) (tOr (tBo (tBin neD (tOf (tCl lenD (tCnL (tSl 8) tNlL))) (tOf (tCl lenD (tCnL (tSl 1) tNlL))))) (tNt (tBo (tCl allD (tCnL (tOf (tComp (tWkL (tSl 8)) (gN 7) tYs (tAnV (tFn S__law_is_integer (tCnV (tVr 7) tNlV)) (tBin geD (tSl 7) (tOf (tK (.int 0))))) [7])) tNlL)))))) (tSq (tRt false (tK (.bool false)))
  tNx) tNx)
  (tSq (tFo (tEn (tCn (tVr 8) tNl)) (gTu 2 (gCo (gN 9) (gCo (gN 10) gNi))) (tSq (tIfc (tOr (tBo (tBin neD (tOf (tCl maxOfD (tCnL (tOf (tFn S__law_ends (tCnV (tVr 1) (tCnV (tFn S__law_with (tCnV (tVr 2) (tCnV (tVr 9) (tCnV (tVr 10) tNlV)))) tNlV)))) tNlL))) (tSl 4))) (tBo (tBin leD (tOf (tCl maxOfD (tCnL (tOf (tFn S__law_ends (tCnV (tVr 1) (tCnV (tFn S__law_with (tCnV (tVr 2) (tCnV (tVr 9) (tCnV (tBin addD (tSl 10) (tOf (tK (.int 1)))) tNlV)))) tNlV)))) tNlL))) (tSl 4)))) (tSq (tRt false (tK (.bool false)))
  tNx) tNx)
  tNx))
  (tSq (tFo (tWk (tSlc slD (tSl 5) tNoP (tPrt (tK (.int 20))))) (gN 6) (tSq (tIfc (tBo (tCl anyD (tCnL (tOf (tComp (tWkL (tSl 6)) (gN 7) tYs (tBin neD (tOf (tBin ixD (tSl 8) (tSl 7))) (tOf (tK (.int 0)))) [7])) tNlL))) (tSq (tRt false (tK (.bool false)))
  tNx) tNx)
  tNx))
  (tSq (tAs false (tFn S__law_draw (tCnH 0 (tCnV (tCl lenD (tCnL (tSl 1) tNlL)) tNlV))) 9)
  (tSq (tAs false (tFn S_ends_of (tCnV (tVr 1) (tCnV (tFn S__law_with (tCnV (tVr 2) (tCnV (tVr 9) (tCnV (tCl intD (tCnL (tOf (tBin ltD (tOf (tBin ixD (tSl 2) (tSl 9))) (tOf (tK (.int 100))))) tNlL)) tNlV)))) tNlV))) 11)
  (tSq (tRt false (tCl allD (tCnL (tOf (tComp (tZp (tCn (tVr 3) (tCn (tVr 11) tNl))) (gTu 2 (gCo (gN 7) (gCo (gN 12) gNi))) tYs (tBin leD (tSl 7) (tSl 12)) [7, 12])) tNlL)))
  tNx)))))))))))
end Lw
end
section
set_option Elab.async false
set_option linter.all false
set_option maxRecDepth 100000
set_option maxHeartbeats 4000000
open PySem PySem.Spec PyProof.Rows L2 PD
namespace Lw
def top (i : Nat) : Stmt := PySem.Challenge.pw_layerhouse_k83_whole_ends_rows_and_slack.main.body.getD i (.Pass ⟨0, 0, 0, 0⟩)
abbrev s_is_integer : Stmt := top 1
abbrev N_is_integer : List Str := ["thing"]
abbrev P_is_integer : List Str := ["thing"]
theorem sc_is_integer : FnScope N_is_integer P_is_integer (defScope s_is_integer) := ⟨rfl, rfl, rfl, by decide +kernel, rfl, by decide +kernel, by decide +kernel⟩
abbrev s_is_within : Stmt := top 2
abbrev N_is_within : List Str := ["thing", "low", "high"]
abbrev P_is_within : List Str := ["thing", "low", "high"]
theorem sc_is_within : FnScope N_is_within P_is_within (defScope s_is_within) := ⟨rfl, rfl, rfl, by decide +kernel, rfl, by decide +kernel, by decide +kernel⟩
abbrev s_is_sized : Stmt := top 3
abbrev N_is_sized : List Str := ["thing", "low", "high"]
abbrev P_is_sized : List Str := ["thing", "low", "high"]
theorem sc_is_sized : FnScope N_is_sized P_is_sized (defScope s_is_sized) := ⟨rfl, rfl, rfl, by decide +kernel, rfl, by decide +kernel, by decide +kernel⟩
abbrev s_are_rising : Stmt := top 4
abbrev N_are_rising : List Str := ["things", "one", "other"]
abbrev P_are_rising : List Str := ["things"]
theorem sc_are_rising : FnScope N_are_rising P_are_rising (defScope s_are_rising) := ⟨rfl, rfl, rfl, by decide +kernel, rfl, by decide +kernel, by decide +kernel⟩
abbrev s_is_lot : Stmt := top 5
abbrev N_is_lot : List Str := ["thing", "many", "one"]
abbrev P_is_lot : List Str := ["thing", "many"]
theorem sc_is_lot : FnScope N_is_lot P_is_lot (defScope s_is_lot) := ⟨rfl, rfl, rfl, by decide +kernel, rfl, by decide +kernel, by decide +kernel⟩
abbrev s_are_stages : Stmt := top 14
abbrev N_are_stages : List Str := ["thing", "lot", "number"]
abbrev P_are_stages : List Str := ["thing"]
theorem sc_are_stages : FnScope N_are_stages P_are_stages (defScope s_are_stages) := ⟨rfl, rfl, rfl, by decide +kernel, rfl, by decide +kernel, by decide +kernel⟩
abbrev s_check_stages : Stmt := top 15
abbrev N_check_stages : List Str := ["stages"]
abbrev P_check_stages : List Str := ["stages"]
theorem sc_check_stages : FnScope N_check_stages P_check_stages (defScope s_check_stages) := ⟨rfl, rfl, rfl, by decide +kernel, rfl, by decide +kernel, by decide +kernel⟩
abbrev s_least_order : Stmt := top 16
abbrev N_least_order : List Str := ["stages", "order", "ready", "one", "need"]
abbrev P_least_order : List Str := ["stages"]
theorem sc_least_order : FnScope N_least_order P_least_order (defScope s_least_order) := ⟨rfl, rfl, rfl, by decide +kernel, rfl, by decide +kernel, by decide +kernel⟩
abbrev s_check_ringless : Stmt := top 17
abbrev N_check_ringless : List Str := ["stages", "order"]
abbrev P_check_ringless : List Str := ["stages"]
theorem sc_check_ringless : FnScope N_check_ringless P_check_ringless (defScope s_check_ringless) := ⟨rfl, rfl, rfl, by decide +kernel, rfl, by decide +kernel, by decide +kernel⟩
abbrev s_check_times : Stmt := top 18
abbrev N_check_times : List Str := ["stages", "times", "order", "one"]
abbrev P_check_times : List Str := ["stages", "times"]
theorem sc_check_times : FnScope N_check_times P_check_times (defScope s_check_times) := ⟨rfl, rfl, rfl, by decide +kernel, rfl, by decide +kernel, by decide +kernel⟩
abbrev s_raw_ends : Stmt := top 19
abbrev N_raw_ends : List Str := ["stages", "times", "order", "ends", "number", "need"]
abbrev P_raw_ends : List Str := ["stages", "times", "order"]
theorem sc_raw_ends : FnScope N_raw_ends P_raw_ends (defScope s_raw_ends) := ⟨rfl, rfl, rfl, by decide +kernel, rfl, by decide +kernel, by decide +kernel⟩
abbrev s_ends_of : Stmt := top 20
abbrev N_ends_of : List Str := ["stages", "times", "order"]
abbrev P_ends_of : List Str := ["stages", "times"]
theorem sc_ends_of : FnScope N_ends_of P_ends_of (defScope s_ends_of) := ⟨rfl, rfl, rfl, by decide +kernel, rfl, by decide +kernel, by decide +kernel⟩
abbrev s_rows_to : Stmt := top 21
abbrev N_rows_to : List Str := ["stages", "times", "ends", "found", "number", "begin", "rows", "need"]
abbrev P_rows_to : List Str := ["stages", "times", "ends"]
theorem sc_rows_to : FnScope N_rows_to P_rows_to (defScope s_rows_to) := ⟨rfl, rfl, rfl, by decide +kernel, rfl, by decide +kernel, by decide +kernel⟩
abbrev s_longest_row : Stmt := top 22
abbrev N_longest_row : List Str := ["stages", "times", "order", "ends", "rows", "number"]
abbrev P_longest_row : List Str := ["stages", "times"]
theorem sc_longest_row : FnScope N_longest_row P_longest_row (defScope s_longest_row) := ⟨rfl, rfl, rfl, by decide +kernel, rfl, by decide +kernel, by decide +kernel⟩
abbrev s_slacks_of : Stmt := top 23
abbrev N_slacks_of : List Str := ["stages", "times", "order", "ends", "latest", "number", "need", "late", "end"]
abbrev P_slacks_of : List Str := ["stages", "times"]
theorem sc_slacks_of : FnScope N_slacks_of P_slacks_of (defScope s_slacks_of) := ⟨rfl, rfl, rfl, by decide +kernel, rfl, by decide +kernel, by decide +kernel⟩
abbrev s__law_hand : Stmt := top 25
abbrev N__law_hand : List Str := ["script", "cells", "cell"]
abbrev P__law_hand : List Str := ["script"]
theorem sc__law_hand : FnScope N__law_hand P__law_hand (defScope s__law_hand) := ⟨rfl, rfl, rfl, by decide +kernel, rfl, by decide +kernel, by decide +kernel⟩
abbrev s__law_draw : Stmt := top 26
abbrev N__law_draw : List Str := ["hand", "many", "cell", "digit", "number"]
abbrev P__law_draw : List Str := ["hand", "many"]
theorem sc__law_draw : FnScope N__law_draw P__law_draw (defScope s__law_draw) := ⟨rfl, rfl, rfl, by decide +kernel, rfl, by decide +kernel, by decide +kernel⟩
abbrev s__law_any : Stmt := top 27
abbrev N__law_any : List Str := ["hand", "some"]
abbrev P__law_any : List Str := ["hand", "some"]
theorem sc__law_any : FnScope N__law_any P__law_any (defScope s__law_any) := ⟨rfl, rfl, rfl, by decide +kernel, rfl, by decide +kernel, by decide +kernel⟩
abbrev s__law_mixed : Stmt := top 28
abbrev N__law_mixed : List Str := ["hand", "things", "pool", "found"]
abbrev P__law_mixed : List Str := ["hand", "things"]
theorem sc__law_mixed : FnScope N__law_mixed P__law_mixed (defScope s__law_mixed) := ⟨rfl, rfl, rfl, by decide +kernel, rfl, by decide +kernel, by decide +kernel⟩
abbrev s__law_same : Stmt := top 29
abbrev N__law_same : List Str := ["one", "due", "a", "b"]
abbrev P__law_same : List Str := ["one", "due"]
theorem sc__law_same : FnScope N__law_same P__law_same (defScope s__law_same) := ⟨rfl, rfl, rfl, by decide +kernel, rfl, by decide +kernel, by decide +kernel⟩
abbrev s__law_is_integer : Stmt := top 30
abbrev N__law_is_integer : List Str := ["thing"]
abbrev P__law_is_integer : List Str := ["thing"]
theorem sc__law_is_integer : FnScope N__law_is_integer P__law_is_integer (defScope s__law_is_integer) := ⟨rfl, rfl, rfl, by decide +kernel, rfl, by decide +kernel, by decide +kernel⟩
abbrev s__law_round_free : Stmt := top 31
abbrev N__law_round_free : List Str := ["hand", "most", "many", "order", "found", "much", "at", "stage", "one"]
abbrev P__law_round_free : List Str := ["hand", "most"]
theorem sc__law_round_free : FnScope N__law_round_free P__law_round_free (defScope s__law_round_free) := ⟨rfl, rfl, rfl, by decide +kernel, rfl, by decide +kernel, by decide +kernel⟩
abbrev s__law_order : Stmt := top 32
abbrev N__law_order : List Str := ["some", "found", "is_more", "free_ones", "one", "other"]
abbrev P__law_order : List Str := ["some"]
theorem sc__law_order : FnScope N__law_order P__law_order (defScope s__law_order) := ⟨rfl, rfl, rfl, by decide +kernel, rfl, by decide +kernel, by decide +kernel⟩
abbrev s__law_ends : Stmt := top 33
abbrev N__law_ends : List Str := ["some", "times", "found", "one", "other"]
abbrev P__law_ends : List Str := ["some", "times"]
theorem sc__law_ends : FnScope N__law_ends P__law_ends (defScope s__law_ends) := ⟨rfl, rfl, rfl, by decide +kernel, rfl, by decide +kernel, by decide +kernel⟩
abbrev s__law_times : Stmt := top 34
abbrev N__law_times : List Str := ["hand", "many", "wide", "one"]
abbrev P__law_times : List Str := ["hand", "many"]
theorem sc__law_times : FnScope N__law_times P__law_times (defScope s__law_times) := ⟨rfl, rfl, rfl, by decide +kernel, rfl, by decide +kernel, by decide +kernel⟩
abbrev s__law_rows : Stmt := top 35
abbrev N__law_rows : List Str := ["some", "found", "line", "one", "row"]
abbrev P__law_rows : List Str := ["some"]
theorem sc__law_rows : FnScope N__law_rows P__law_rows (defScope s__law_rows) := ⟨rfl, rfl, rfl, by decide +kernel, rfl, by decide +kernel, by decide +kernel⟩
abbrev s__law_with : Stmt := top 36
abbrev N__law_with : List Str := ["times", "at", "more"]
abbrev P__law_with : List Str := ["times", "at", "more"]
theorem sc__law_with : FnScope N__law_with P__law_with (defScope s__law_with) := ⟨rfl, rfl, rfl, by decide +kernel, rfl, by decide +kernel, by decide +kernel⟩
abbrev s__law_is_right : Stmt := top 37
abbrev N__law_is_right : List Str := ["hand", "some", "times", "ends", "greatest", "rows", "row", "one", "slacks", "at", "slack", "later", "other"]
abbrev P__law_is_right : List Str := ["hand", "some", "times"]
theorem sc__law_is_right : FnScope N__law_is_right P__law_is_right (defScope s__law_is_right) := ⟨rfl, rfl, rfl, by decide +kernel, rfl, by decide +kernel, by decide +kernel⟩
abbrev s_law : Stmt := top 38
abbrev N_law : List Str := ["script", "hand", "some", "times", "lap"]
abbrev P_law : List Str := ["script"]
theorem sc_law : FnScope N_law P_law (defScope s_law) := ⟨rfl, rfl, rfl, by decide +kernel, rfl, by decide +kernel, by decide +kernel⟩
structure Txt (K : PySem.W.Frag) (mg : Str → Option Value) where
  f_is_integer : Addr
  d_is_integer : FuncData
  F_is_integer : L2.Fun K "is_integer" "is_integer" s_is_integer f_is_integer d_is_integer
  b_is_integer : Binds K d_is_integer P_is_integer []
  g_is_integer : mg "is_integer" = some (.ref f_is_integer)
  f_is_within : Addr
  d_is_within : FuncData
  F_is_within : L2.Fun K "is_within" "is_within" s_is_within f_is_within d_is_within
  b_is_within : Binds K d_is_within P_is_within []
  g_is_within : mg "is_within" = some (.ref f_is_within)
  f_is_sized : Addr
  d_is_sized : FuncData
  F_is_sized : L2.Fun K "is_sized" "is_sized" s_is_sized f_is_sized d_is_sized
  b_is_sized : Binds K d_is_sized P_is_sized []
  g_is_sized : mg "is_sized" = some (.ref f_is_sized)
  f_are_rising : Addr
  d_are_rising : FuncData
  F_are_rising : L2.Fun K "are_rising" "are_rising" s_are_rising f_are_rising d_are_rising
  b_are_rising : Binds K d_are_rising P_are_rising []
  g_are_rising : mg "are_rising" = some (.ref f_are_rising)
  f_is_lot : Addr
  d_is_lot : FuncData
  F_is_lot : L2.Fun K "is_lot" "is_lot" s_is_lot f_is_lot d_is_lot
  b_is_lot : Binds K d_is_lot P_is_lot []
  g_is_lot : mg "is_lot" = some (.ref f_is_lot)
  f_are_stages : Addr
  d_are_stages : FuncData
  F_are_stages : L2.Fun K "are_stages" "are_stages" s_are_stages f_are_stages d_are_stages
  b_are_stages : Binds K d_are_stages P_are_stages []
  g_are_stages : mg "are_stages" = some (.ref f_are_stages)
  f_check_stages : Addr
  d_check_stages : FuncData
  F_check_stages : L2.Fun K "check_stages" "check_stages" s_check_stages f_check_stages d_check_stages
  b_check_stages : Binds K d_check_stages P_check_stages []
  g_check_stages : mg "check_stages" = some (.ref f_check_stages)
  f_least_order : Addr
  d_least_order : FuncData
  F_least_order : L2.Fun K "least_order" "least_order" s_least_order f_least_order d_least_order
  b_least_order : Binds K d_least_order P_least_order []
  g_least_order : mg "least_order" = some (.ref f_least_order)
  f_check_ringless : Addr
  d_check_ringless : FuncData
  F_check_ringless : L2.Fun K "check_ringless" "check_ringless" s_check_ringless f_check_ringless d_check_ringless
  b_check_ringless : Binds K d_check_ringless P_check_ringless []
  g_check_ringless : mg "check_ringless" = some (.ref f_check_ringless)
  f_check_times : Addr
  d_check_times : FuncData
  F_check_times : L2.Fun K "check_times" "check_times" s_check_times f_check_times d_check_times
  b_check_times : Binds K d_check_times P_check_times []
  g_check_times : mg "check_times" = some (.ref f_check_times)
  f_raw_ends : Addr
  d_raw_ends : FuncData
  F_raw_ends : L2.Fun K "raw_ends" "raw_ends" s_raw_ends f_raw_ends d_raw_ends
  b_raw_ends : Binds K d_raw_ends P_raw_ends []
  g_raw_ends : mg "raw_ends" = some (.ref f_raw_ends)
  f_ends_of : Addr
  d_ends_of : FuncData
  F_ends_of : L2.Fun K "ends_of" "ends_of" s_ends_of f_ends_of d_ends_of
  b_ends_of : Binds K d_ends_of P_ends_of []
  g_ends_of : mg "ends_of" = some (.ref f_ends_of)
  f_rows_to : Addr
  d_rows_to : FuncData
  F_rows_to : L2.Fun K "rows_to" "rows_to" s_rows_to f_rows_to d_rows_to
  b_rows_to : Binds K d_rows_to P_rows_to []
  g_rows_to : mg "rows_to" = some (.ref f_rows_to)
  f_longest_row : Addr
  d_longest_row : FuncData
  F_longest_row : L2.Fun K "longest_row" "longest_row" s_longest_row f_longest_row d_longest_row
  b_longest_row : Binds K d_longest_row P_longest_row []
  g_longest_row : mg "longest_row" = some (.ref f_longest_row)
  f_slacks_of : Addr
  d_slacks_of : FuncData
  F_slacks_of : L2.Fun K "slacks_of" "slacks_of" s_slacks_of f_slacks_of d_slacks_of
  b_slacks_of : Binds K d_slacks_of P_slacks_of []
  g_slacks_of : mg "slacks_of" = some (.ref f_slacks_of)
  f__law_hand : Addr
  d__law_hand : FuncData
  F__law_hand : L2.Fun K "_law_hand" "_law_hand" s__law_hand f__law_hand d__law_hand
  b__law_hand : Binds K d__law_hand P__law_hand []
  g__law_hand : mg "_law_hand" = some (.ref f__law_hand)
  f__law_draw : Addr
  d__law_draw : FuncData
  F__law_draw : L2.Fun K "_law_draw" "_law_draw" s__law_draw f__law_draw d__law_draw
  b__law_draw : Binds K d__law_draw P__law_draw []
  g__law_draw : mg "_law_draw" = some (.ref f__law_draw)
  f__law_any : Addr
  d__law_any : FuncData
  F__law_any : L2.Fun K "_law_any" "_law_any" s__law_any f__law_any d__law_any
  b__law_any : Binds K d__law_any P__law_any []
  g__law_any : mg "_law_any" = some (.ref f__law_any)
  f__law_mixed : Addr
  d__law_mixed : FuncData
  F__law_mixed : L2.Fun K "_law_mixed" "_law_mixed" s__law_mixed f__law_mixed d__law_mixed
  b__law_mixed : Binds K d__law_mixed P__law_mixed []
  g__law_mixed : mg "_law_mixed" = some (.ref f__law_mixed)
  f__law_same : Addr
  d__law_same : FuncData
  F__law_same : L2.Fun K "_law_same" "_law_same" s__law_same f__law_same d__law_same
  b__law_same : Binds K d__law_same P__law_same []
  g__law_same : mg "_law_same" = some (.ref f__law_same)
  f__law_is_integer : Addr
  d__law_is_integer : FuncData
  F__law_is_integer : L2.Fun K "_law_is_integer" "_law_is_integer" s__law_is_integer f__law_is_integer d__law_is_integer
  b__law_is_integer : Binds K d__law_is_integer P__law_is_integer []
  g__law_is_integer : mg "_law_is_integer" = some (.ref f__law_is_integer)
  f__law_round_free : Addr
  d__law_round_free : FuncData
  F__law_round_free : L2.Fun K "_law_round_free" "_law_round_free" s__law_round_free f__law_round_free d__law_round_free
  b__law_round_free : Binds K d__law_round_free P__law_round_free []
  g__law_round_free : mg "_law_round_free" = some (.ref f__law_round_free)
  f__law_order : Addr
  d__law_order : FuncData
  F__law_order : L2.Fun K "_law_order" "_law_order" s__law_order f__law_order d__law_order
  b__law_order : Binds K d__law_order P__law_order []
  g__law_order : mg "_law_order" = some (.ref f__law_order)
  f__law_ends : Addr
  d__law_ends : FuncData
  F__law_ends : L2.Fun K "_law_ends" "_law_ends" s__law_ends f__law_ends d__law_ends
  b__law_ends : Binds K d__law_ends P__law_ends []
  g__law_ends : mg "_law_ends" = some (.ref f__law_ends)
  f__law_times : Addr
  d__law_times : FuncData
  F__law_times : L2.Fun K "_law_times" "_law_times" s__law_times f__law_times d__law_times
  b__law_times : Binds K d__law_times P__law_times []
  g__law_times : mg "_law_times" = some (.ref f__law_times)
  f__law_rows : Addr
  d__law_rows : FuncData
  F__law_rows : L2.Fun K "_law_rows" "_law_rows" s__law_rows f__law_rows d__law_rows
  b__law_rows : Binds K d__law_rows P__law_rows []
  g__law_rows : mg "_law_rows" = some (.ref f__law_rows)
  f__law_with : Addr
  d__law_with : FuncData
  F__law_with : L2.Fun K "_law_with" "_law_with" s__law_with f__law_with d__law_with
  b__law_with : Binds K d__law_with P__law_with []
  g__law_with : mg "_law_with" = some (.ref f__law_with)
  f__law_is_right : Addr
  d__law_is_right : FuncData
  F__law_is_right : L2.Fun K "_law_is_right" "_law_is_right" s__law_is_right f__law_is_right d__law_is_right
  b__law_is_right : Binds K d__law_is_right P__law_is_right []
  g__law_is_right : mg "_law_is_right" = some (.ref f__law_is_right)
  f_law : Addr
  d_law : FuncData
  F_law : L2.Fun K "law" "law" s_law f_law d_law
  b_law : Binds K d_law P_law []
  g_law : mg "law" = some (.ref f_law)
  t_MOST_STAGES : Tok
  c_MOST_STAGES : mg "MOST_STAGES" = some (.int 10 t_MOST_STAGES)
  t_MOST_TIME : Tok
  c_MOST_TIME : mg "MOST_TIME" = some (.int 100 t_MOST_TIME)
  m_abs : mg "abs" = none
  m_all : mg "all" = none
  m_any : mg "any" = none
  m_bool : mg "bool" = none
  m_enumerate : mg "enumerate" = none
  m_int : mg "int" = none
  m_isinstance : mg "isinstance" = none
  m_len : mg "len" = none
  m_list : mg "list" = none
  m_max : mg "max" = none
  m_min : mg "min" = none
  m_range : mg "range" = none
  m_sorted : mg "sorted" = none
  m_sum : mg "sum" = none
  m_tuple : mg "tuple" = none
  m_zip : mg "zip" = none
end Lw
end
section
set_option Elab.async false
set_option linter.all false
set_option maxRecDepth 100000
set_option maxHeartbeats 4000000
open PySem PySem.Spec PyProof.Rows L2 PD
namespace Lw
theorem wk_is_integer {P : Program} {w : World} {K : PySem.W.Frag} {mg : Str → Option Value} {base : Heap} (T : Txt K mg) {k : Nat}
  (cdv : Value) (A : Around) (outer : List Env) (s : Shared) (H : Hp) (E : XK) (hr : Room k (A.deeper (envOfC "is_integer" (defScope s_is_integer) s.heap.objs.size T.f_is_integer cdv))) :
  DSs (cxOf CX0 P w K mg base N_is_integer "is_integer" (defScope s_is_integer) T.f_is_integer cdv A outer s H E).nox (defBody s_is_integer) t_is_integer := by
  have hu := hu64 hr
  have hu1 := hu1_ hr
  have h : ∃ t, DSs (cxOf CX0 P w K mg base N_is_integer "is_integer" (defScope s_is_integer) T.f_is_integer cdv A outer s H E).nox (defBody s_is_integer) t ∧ t = t_is_integer := by
    refine ⟨_, (dss_cons (ds_ret (DE.x (de_and (de_isa isa_int (dl_var 0) (by rfl) T.m_isinstance bt_isinstance (by rfl) T.m_int bt_int) (de_one (de_not (DE.dl (de_isa isa_bool (dl_var 0) (by rfl) T.m_isinstance bt_isinstance (by rfl) T.m_bool bt_bool)))))))
  dss_nil), ?_⟩
    rfl
  obtain ⟨t, h1, h2⟩ := h
  rw [← h2]
  exact h1
theorem wk_is_within {P : Program} {w : World} {K : PySem.W.Frag} {mg : Str → Option Value} {base : Heap} (T : Txt K mg) {k : Nat}
  {S_is_integer : FSpec} (mono_is_integer : MonoF S_is_integer) (G_is_integer : FnOk P w K mg base CX0 k T.f_is_integer T.d_is_integer P_is_integer (spD K false S_is_integer))
  (cdv : Value) (A : Around) (outer : List Env) (s : Shared) (H : Hp) (E : XK) (hr : Room k (A.deeper (envOfC "is_within" (defScope s_is_within) s.heap.objs.size T.f_is_within cdv))) :
  DSs (cxOf CX0 P w K mg base N_is_within "is_within" (defScope s_is_within) T.f_is_within cdv A outer s H E).nox (defBody s_is_within) (t_is_within S_is_integer) := by
  have hu := hu64 hr
  have hu1 := hu1_ hr
  have h : ∃ t, DSs (cxOf CX0 P w K mg base N_is_within "is_within" (defScope s_is_within) T.f_is_within cdv A outer s H E).nox (defBody s_is_within) t ∧ t = t_is_within S_is_integer := by
    refine ⟨_, (dss_cons (ds_ret (DE.x (de_and (de_call G_is_integer mono_is_integer hr (by rfl) T.g_is_integer T.F_is_integer.kp T.b_is_integer pass0 (dv_cons (de_var 0) dv_nil)) (de_one (de_chn (op_leP hu) (op_leP hu) (dl_var 1) (dl_var 0) (dl_var 2))))))
  dss_nil), ?_⟩
    rfl
  obtain ⟨t, h1, h2⟩ := h
  rw [← h2]
  exact h1
theorem wk_is_sized {P : Program} {w : World} {K : PySem.W.Frag} {mg : Str → Option Value} {base : Heap} (T : Txt K mg) {k : Nat}
  (cdv : Value) (A : Around) (outer : List Env) (s : Shared) (H : Hp) (E : XK) (hr : Room k (A.deeper (envOfC "is_sized" (defScope s_is_sized) s.heap.objs.size T.f_is_sized cdv))) :
  DSs (cxOf CX0 P w K mg base N_is_sized "is_sized" (defScope s_is_sized) T.f_is_sized cdv A outer s H E).nox (defBody s_is_sized) t_is_sized := by
  have hu := hu64 hr
  have hu1 := hu1_ hr
  have h : ∃ t, DSs (cxOf CX0 P w K mg base N_is_sized "is_sized" (defScope s_is_sized) T.f_is_sized cdv A outer s H E).nox (defBody s_is_sized) t ∧ t = t_is_sized := by
    refine ⟨_, (dss_cons (ds_ret (DE.x (de_and (de_isa isa_tuple (dl_var 0) (by rfl) T.m_isinstance bt_isinstance (by rfl) T.m_tuple bt_tuple) (de_one (de_chn (op_leP hu) (op_leP hu) (dl_var 1) (DE.dl (de_callB call_lenP (by rfl) T.m_len bt_len (dls_cons (dl_var 0) dls_nil))) (dl_var 2))))))
  dss_nil), ?_⟩
    rfl
  obtain ⟨t, h1, h2⟩ := h
  rw [← h2]
  exact h1
theorem wk_are_rising {P : Program} {w : World} {K : PySem.W.Frag} {mg : Str → Option Value} {base : Heap} (T : Txt K mg) {k : Nat}
  (cdv : Value) (A : Around) (outer : List Env) (s : Shared) (H : Hp) (E : XK) (hr : Room k (A.deeper (envOfC "are_rising" (defScope s_are_rising) s.heap.objs.size T.f_are_rising cdv))) :
  DSs (cxOf CX0 P w K mg base N_are_rising "are_rising" (defScope s_are_rising) T.f_are_rising cdv A outer s H E).nox (defBody s_are_rising) t_are_rising := by
  have hu := hu64 hr
  have hu1 := hu1_ hr
  have h : ∃ t, DSs (cxOf CX0 P w K mg base N_are_rising "are_rising" (defScope s_are_rising) T.f_are_rising cdv A outer s H E).nox (defBody s_are_rising) t ∧ t = t_are_rising := by
    refine ⟨_, (dss_cons (ds_ret (DE.x (de_callB (call_allP rfl) (by rfl) T.m_all bt_all (dls_cons (DE.dl (DF.de (df_lc rfl sc_are_rising.nd (DI.lo (di_zip (by rfl) T.m_zip (da_cons (de_var 0) (da_cons (de_slice (dl_var 0) (do_some de_int) do_none) da_nil)))) (blkOk_by (own := [("one", 1), ("other", 2)]) (N := N_are_rising) (sc := defScope s_are_rising) (by decide +kernel)) (fun _ _ _ _ _ => (dg_tup (n := 2) rfl (dgs_cons (dg_name (i := 1) sc_are_rising.nd rfl (by first | exact .inl rfl | exact .inr rfl) (by first | exact .inl rfl | exact .inr rfl)) (dgs_cons (dg_name (i := 2) sc_are_rising.nd rfl (by first | exact .inl rfl | exact .inr rfl) (by first | exact .inl rfl | exact .inr rfl)) dgs_nil)))) (fun _ _ _ _ _ => dts_nil) (fun _ _ _ _ _ => (de_cmp (op_ltP hu) (dl_var 1) (dl_var 2))) (by decide)))) dls_nil))))
  dss_nil), ?_⟩
    rfl
  obtain ⟨t, h1, h2⟩ := h
  rw [← h2]
  exact h1
theorem wk_is_lot {P : Program} {w : World} {K : PySem.W.Frag} {mg : Str → Option Value} {base : Heap} (T : Txt K mg) {k : Nat}
  {S_is_within : FSpec} (mono_is_within : MonoF S_is_within) (G_is_within : FnOk P w K mg base CX0 k T.f_is_within T.d_is_within P_is_within (spD K false S_is_within))
  {S_are_rising : FSpec} (mono_are_rising : MonoF S_are_rising) (G_are_rising : FnOk P w K mg base CX0 k T.f_are_rising T.d_are_rising P_are_rising (spD K false S_are_rising))
  (cdv : Value) (A : Around) (outer : List Env) (s : Shared) (H : Hp) (E : XK) (hr : Room k (A.deeper (envOfC "is_lot" (defScope s_is_lot) s.heap.objs.size T.f_is_lot cdv))) :
  DSs (cxOf CX0 P w K mg base N_is_lot "is_lot" (defScope s_is_lot) T.f_is_lot cdv A outer s H E).nox (defBody s_is_lot) (t_is_lot S_is_within S_are_rising) := by
  have hu := hu64 hr
  have hu1 := hu1_ hr
  have h : ∃ t, DSs (cxOf CX0 P w K mg base N_is_lot "is_lot" (defScope s_is_lot) T.f_is_lot cdv A outer s H E).nox (defBody s_is_lot) t ∧ t = t_is_lot S_is_within S_are_rising := by
    refine ⟨_, (dss_cons (ds_if (DW.dt (dw_or (dt_not (dt_val (de_isa isa_tuple (dl_var 0) (by rfl) T.m_isinstance bt_isinstance (by rfl) T.m_tuple bt_tuple))) (dw_or1 (dt_not (dt_val (de_callB (call_allP rfl) (by rfl) T.m_all bt_all (dls_cons (DE.dl (DF.de (df_lc rfl sc_is_lot.nd (di_seqL (dl_var 0)) (blkOk_by (own := [("one", 2)]) (N := N_is_lot) (sc := defScope s_is_lot) (by decide +kernel)) (fun _ _ _ _ _ => (dg_name (i := 2) sc_is_lot.nd rfl (by first | exact .inl rfl | exact .inr rfl) (by first | exact .inl rfl | exact .inr rfl))) (fun _ _ _ _ _ => dts_nil) (fun _ _ _ _ _ => (de_call G_is_within mono_is_within hr (by rfl) T.g_is_within T.F_is_within.kp T.b_is_within pass0 (dv_cons (de_var 2) (dv_cons de_int (dv_cons (de_op op_subD (dl_var 1) (DE.dl de_int)) dv_nil))))) (by decide)))) dls_nil))))))) (dss_cons (ds_ret (DE.x de_bl))
  dss_nil) dss_nil)
  (dss_cons (ds_ret (DE.x (de_call G_are_rising mono_are_rising hr (by rfl) T.g_are_rising T.F_are_rising.kp T.b_are_rising pass0 (dv_cons (de_var 0) dv_nil))))
  dss_nil)), ?_⟩
    rfl
  obtain ⟨t, h1, h2⟩ := h
  rw [← h2]
  exact h1
theorem wk_are_stages {P : Program} {w : World} {K : PySem.W.Frag} {mg : Str → Option Value} {base : Heap} (T : Txt K mg) {k : Nat}
  {S_is_sized : FSpec} (mono_is_sized : MonoF S_is_sized) (G_is_sized : FnOk P w K mg base CX0 k T.f_is_sized T.d_is_sized P_is_sized (spD K false S_is_sized))
  {S_is_lot : FSpec} (mono_is_lot : MonoF S_is_lot) (G_is_lot : FnOk P w K mg base CX0 k T.f_is_lot T.d_is_lot P_is_lot (spD K false S_is_lot))
  (cdv : Value) (A : Around) (outer : List Env) (s : Shared) (H : Hp) (E : XK) (hr : Room k (A.deeper (envOfC "are_stages" (defScope s_are_stages) s.heap.objs.size T.f_are_stages cdv))) :
  DSs (cxOf CX0 P w K mg base N_are_stages "are_stages" (defScope s_are_stages) T.f_are_stages cdv A outer s H E).nox (defBody s_are_stages) (t_are_stages S_is_sized S_is_lot) := by
  have hu := hu64 hr
  have hu1 := hu1_ hr
  have h : ∃ t, DSs (cxOf CX0 P w K mg base N_are_stages "are_stages" (defScope s_are_stages) T.f_are_stages cdv A outer s H E).nox (defBody s_are_stages) t ∧ t = t_are_stages S_is_sized S_is_lot := by
    refine ⟨_, (dss_cons (ds_if (DW.dt (dw_or (dt_not (dt_val (de_call G_is_sized mono_is_sized hr (by rfl) T.g_is_sized T.F_is_sized.kp T.b_is_sized pass0 (dv_cons (de_var 0) (dv_cons de_int (dv_cons (de_gint (by rfl) T.c_MOST_STAGES) dv_nil)))))) (dw_or1 (dt_not (dt_val (de_callB (call_allP rfl) (by rfl) T.m_all bt_all (dls_cons (DE.dl (DF.de (df_lc rfl sc_are_stages.nd (di_seqL (dl_var 0)) (blkOk_by (own := [("lot", 1)]) (N := N_are_stages) (sc := defScope s_are_stages) (by decide +kernel)) (fun _ _ _ _ _ => (dg_name (i := 1) sc_are_stages.nd rfl (by first | exact .inl rfl | exact .inr rfl) (by first | exact .inl rfl | exact .inr rfl))) (fun _ _ _ _ _ => dts_nil) (fun _ _ _ _ _ => (de_call G_is_lot mono_is_lot hr (by rfl) T.g_is_lot T.F_is_lot.kp T.b_is_lot pass0 (dv_cons (de_var 1) (dv_cons (de_callB call_lenP (by rfl) T.m_len bt_len (dls_cons (dl_var 0) dls_nil)) dv_nil)))) (by decide)))) dls_nil))))))) (dss_cons (ds_ret (DE.x de_bl))
  dss_nil) dss_nil)
  (dss_cons (ds_ret (DE.x (de_not (DE.dl (de_callB (call_anyP rfl) (by rfl) T.m_any bt_any (dls_cons (DE.dl (DF.de (df_lc rfl sc_are_stages.nd (DI.lo (di_enum (by rfl) T.m_enumerate (da_cons (de_var 0) da_nil))) (blkOk_by (own := [("number", 2), ("lot", 1)]) (N := N_are_stages) (sc := defScope s_are_stages) (by decide +kernel)) (fun _ _ _ _ _ => (dg_tup (n := 2) rfl (dgs_cons (dg_name (i := 2) sc_are_stages.nd rfl (by first | exact .inl rfl | exact .inr rfl) (by first | exact .inl rfl | exact .inr rfl)) (dgs_cons (dg_name (i := 1) sc_are_stages.nd rfl (by first | exact .inl rfl | exact .inr rfl) (by first | exact .inl rfl | exact .inr rfl)) dgs_nil)))) (fun _ _ _ _ _ => dts_nil) (fun _ _ _ _ _ => (de_cmp (op_inP hu) (dl_var 2) (dl_var 1))) (by decide)))) dls_nil))))))
  dss_nil)), ?_⟩
    rfl
  obtain ⟨t, h1, h2⟩ := h
  rw [← h2]
  exact h1
theorem wk_check_stages {P : Program} {w : World} {K : PySem.W.Frag} {mg : Str → Option Value} {base : Heap} (T : Txt K mg) {k : Nat}
  {S_are_stages : FSpec} (mono_are_stages : MonoF S_are_stages) (G_are_stages : FnOk P w K mg base CX0 k T.f_are_stages T.d_are_stages P_are_stages (spD K false S_are_stages))
  (cdv : Value) (A : Around) (outer : List Env) (s : Shared) (H : Hp) (E : XK) (hr : Room k (A.deeper (envOfC "check_stages" (defScope s_check_stages) s.heap.objs.size T.f_check_stages cdv))) :
  DSs (cxOf CX0 P w K mg base N_check_stages "check_stages" (defScope s_check_stages) T.f_check_stages cdv A outer s H E).nox (defBody s_check_stages) (t_check_stages S_are_stages) := by
  have hu := hu64 hr
  have hu1 := hu1_ hr
  have h : ∃ t, DSs (cxOf CX0 P w K mg base N_check_stages "check_stages" (defScope s_check_stages) T.f_check_stages cdv A outer s H E).nox (defBody s_check_stages) t ∧ t = t_check_stages S_are_stages := by
    refine ⟨_, (dss_cons (ds_if (dt_not (dt_val (de_call G_are_stages mono_are_stages hr (by rfl) T.g_are_stages T.F_are_stages.kp T.b_are_stages pass0 (dv_cons (de_var 0) dv_nil)))) (dss_cons ds_never
  dss_nil) dss_nil)
  dss_nil), ?_⟩
    rfl
  obtain ⟨t, h1, h2⟩ := h
  rw [← h2]
  exact h1
theorem wk_least_order {P : Program} {w : World} {K : PySem.W.Frag} {mg : Str → Option Value} {base : Heap} (T : Txt K mg) {k : Nat}
  (cdv : Value) (A : Around) (outer : List Env) (s : Shared) (H : Hp) (E : XK) (hr : Room k (A.deeper (envOfC "least_order" (defScope s_least_order) s.heap.objs.size T.f_least_order cdv))) :
  DSs (cxOf CX0 P w K mg base N_least_order "least_order" (defScope s_least_order) T.f_least_order cdv A outer s H E).nox (defBody s_least_order) t_least_order := by
  have hu := hu64 hr
  have hu1 := hu1_ hr
  have h : ∃ t, DSs (cxOf CX0 P w K mg base N_least_order "least_order" (defScope s_least_order) T.f_least_order cdv A outer s H E).nox (defBody s_least_order) t ∧ t = t_least_order := by
    refine ⟨_, (dss_cons (ds_set (i := 1) sc_least_order.nd rfl (DF.x (df_lst da_nil)) (by first | exact .inl rfl | exact .inr rfl))
  (dss_cons (ds_while PassesOwn.never (dt_cmp (op_ltP hu) (DE.dl (de_callB call_lenP (by rfl) T.m_len bt_len (dls_cons (dl_var 1) dls_nil))) (DE.dl (de_callB call_lenP (by rfl) T.m_len bt_len (dls_cons (dl_var 0) dls_nil)))) (dss_cons (ds_setLc (i := 2) rfl sc_least_order.nd rfl rfl (sw_true rfl rfl rfl (by decide +kernel)) (DI.lo (di_rng1 (by rfl) T.m_range (da_cons (de_callB call_lenP (by rfl) T.m_len bt_len (dls_cons (dl_var 0) dls_nil)) da_nil))) (blkOk_by (own := [("one", 3)]) (N := N_least_order) (sc := defScope s_least_order) (by decide +kernel)) (fun _ _ _ _ _ => (dg_name (i := 3) sc_least_order.nd rfl (by first | exact .inl rfl | exact .inr rfl) (by first | exact .inl rfl | exact .inr rfl))) (fun _ _ _ _ _ => (dts_one (DW.dt (dw_and (dt_cmp (op_notInP hu) (dl_var 3) (dl_var 1)) (dw_and1 (dt_val (de_callB (call_allP rfl) (by rfl) T.m_all bt_all (dls_cons (DE.dl (DF.de (df_lc rfl sc_least_order.nd (DI.lo (di_seq (de_ix hu (dl_var 0) (dl_var 3)))) (blkOk_by (own := [("need", 4)]) (N := N_least_order) (by kernel_rfl)) (fun _ _ _ _ _ => (dg_name (i := 4) sc_least_order.nd rfl (by first | exact .inl rfl | exact .inr rfl) (by first | exact .inl rfl | exact .inr rfl))) (fun _ _ _ _ _ => dts_nil) (fun _ _ _ _ _ => (de_cmp (op_inP hu) (dl_var 4) (dl_var 1))) (by decide)))) dls_nil)))))))) (fun _ _ _ _ _ => (de_var 3)) (by decide))
  (dss_cons (ds_if (dt_cmp (op_eqP hu) (DE.dl (de_callB call_lenP (by rfl) T.m_len bt_len (dls_cons (dl_var 2) dls_nil))) (DE.dl de_int)) (dss_cons (ds_ret (DE.x de_non))
  dss_nil) dss_nil)
  (dss_cons (ds_expr (de_append (pv 1) (de_ix hu (dl_var 2) (DE.dl de_int))))
  dss_nil))))
  (dss_cons (ds_ret (DE.x (de_callTy call_tupleP (by rfl) T.m_tuple bt_tuple (dls_cons (dl_var 1) dls_nil))))
  dss_nil))), ?_⟩
    rfl
  obtain ⟨t, h1, h2⟩ := h
  rw [← h2]
  exact h1
theorem wk_check_ringless {P : Program} {w : World} {K : PySem.W.Frag} {mg : Str → Option Value} {base : Heap} (T : Txt K mg) {k : Nat}
  {S_check_stages : FSpec} (mono_check_stages : MonoF S_check_stages) (G_check_stages : FnOk P w K mg base CX0 k T.f_check_stages T.d_check_stages P_check_stages (spD K false S_check_stages))
  {S_least_order : FSpec} (mono_least_order : MonoF S_least_order) (G_least_order : FnOk P w K mg base CX0 k T.f_least_order T.d_least_order P_least_order (spD K false S_least_order))
  (cdv : Value) (A : Around) (outer : List Env) (s : Shared) (H : Hp) (E : XK) (hr : Room k (A.deeper (envOfC "check_ringless" (defScope s_check_ringless) s.heap.objs.size T.f_check_ringless cdv))) :
  DSs (cxOf CX0 P w K mg base N_check_ringless "check_ringless" (defScope s_check_ringless) T.f_check_ringless cdv A outer s H E).nox (defBody s_check_ringless) (t_check_ringless S_check_stages S_least_order) := by
  have hu := hu64 hr
  have hu1 := hu1_ hr
  have h : ∃ t, DSs (cxOf CX0 P w K mg base N_check_ringless "check_ringless" (defScope s_check_ringless) T.f_check_ringless cdv A outer s H E).nox (defBody s_check_ringless) t ∧ t = t_check_ringless S_check_stages S_least_order := by
    refine ⟨_, (dss_cons (ds_expr (de_call G_check_stages mono_check_stages hr (by rfl) T.g_check_stages T.F_check_stages.kp T.b_check_stages pass0 (dv_cons (de_var 0) dv_nil)))
  (dss_cons (ds_set (i := 1) sc_check_ringless.nd rfl (DE.x (de_call G_least_order mono_least_order hr (by rfl) T.g_least_order T.F_least_order.kp T.b_least_order pass0 (dv_cons (de_var 0) dv_nil))) (by first | exact .inl rfl | exact .inr rfl))
  (dss_cons (ds_if (dt_cmp op_isP (dl_var 1) (DE.dl de_non)) (dss_cons ds_never
  dss_nil) dss_nil)
  (dss_cons (ds_ret (DE.x (de_var 1)))
  dss_nil)))), ?_⟩
    rfl
  obtain ⟨t, h1, h2⟩ := h
  rw [← h2]
  exact h1
theorem wk_check_times {P : Program} {w : World} {K : PySem.W.Frag} {mg : Str → Option Value} {base : Heap} (T : Txt K mg) {k : Nat}
  {S_is_within : FSpec} (mono_is_within : MonoF S_is_within) (G_is_within : FnOk P w K mg base CX0 k T.f_is_within T.d_is_within P_is_within (spD K false S_is_within))
  {S_is_sized : FSpec} (mono_is_sized : MonoF S_is_sized) (G_is_sized : FnOk P w K mg base CX0 k T.f_is_sized T.d_is_sized P_is_sized (spD K false S_is_sized))
  {S_check_ringless : FSpec} (mono_check_ringless : MonoF S_check_ringless) (G_check_ringless : FnOk P w K mg base CX0 k T.f_check_ringless T.d_check_ringless P_check_ringless (spD K false S_check_ringless))
  (cdv : Value) (A : Around) (outer : List Env) (s : Shared) (H : Hp) (E : XK) (hr : Room k (A.deeper (envOfC "check_times" (defScope s_check_times) s.heap.objs.size T.f_check_times cdv))) :
  DSs (cxOf CX0 P w K mg base N_check_times "check_times" (defScope s_check_times) T.f_check_times cdv A outer s H E).nox (defBody s_check_times) (t_check_times S_is_within S_is_sized S_check_ringless) := by
  have hu := hu64 hr
  have hu1 := hu1_ hr
  have h : ∃ t, DSs (cxOf CX0 P w K mg base N_check_times "check_times" (defScope s_check_times) T.f_check_times cdv A outer s H E).nox (defBody s_check_times) t ∧ t = t_check_times S_is_within S_is_sized S_check_ringless := by
    refine ⟨_, (dss_cons (ds_set (i := 2) sc_check_times.nd rfl (DE.x (de_call G_check_ringless mono_check_ringless hr (by rfl) T.g_check_ringless T.F_check_ringless.kp T.b_check_ringless pass0 (dv_cons (de_var 0) dv_nil))) (by first | exact .inl rfl | exact .inr rfl))
  (dss_cons (ds_if (DW.dt (dw_or (dt_not (dt_val (de_call G_is_sized mono_is_sized hr (by rfl) T.g_is_sized T.F_is_sized.kp T.b_is_sized pass0 (dv_cons (de_var 1) (dv_cons (de_callB call_lenP (by rfl) T.m_len bt_len (dls_cons (dl_var 0) dls_nil)) (dv_cons (de_callB call_lenP (by rfl) T.m_len bt_len (dls_cons (dl_var 0) dls_nil)) dv_nil)))))) (dw_or1 (dt_not (dt_val (de_callB (call_allP rfl) (by rfl) T.m_all bt_all (dls_cons (DE.dl (DF.de (df_lc rfl sc_check_times.nd (di_seqL (dl_var 1)) (blkOk_by (own := [("one", 3)]) (N := N_check_times) (sc := defScope s_check_times) (by decide +kernel)) (fun _ _ _ _ _ => (dg_name (i := 3) sc_check_times.nd rfl (by first | exact .inl rfl | exact .inr rfl) (by first | exact .inl rfl | exact .inr rfl))) (fun _ _ _ _ _ => dts_nil) (fun _ _ _ _ _ => (de_call G_is_within mono_is_within hr (by rfl) T.g_is_within T.F_is_within.kp T.b_is_within pass0 (dv_cons (de_var 3) (dv_cons de_int (dv_cons (de_gint (by rfl) T.c_MOST_TIME) dv_nil))))) (by decide)))) dls_nil))))))) (dss_cons ds_never
  dss_nil) dss_nil)
  (dss_cons (ds_ret (DE.x (de_var 2)))
  dss_nil))), ?_⟩
    rfl
  obtain ⟨t, h1, h2⟩ := h
  rw [← h2]
  exact h1
theorem wk_raw_ends {P : Program} {w : World} {K : PySem.W.Frag} {mg : Str → Option Value} {base : Heap} (T : Txt K mg) {k : Nat}
  (cdv : Value) (A : Around) (outer : List Env) (s : Shared) (H : Hp) (E : XK) (hr : Room k (A.deeper (envOfC "raw_ends" (defScope s_raw_ends) s.heap.objs.size T.f_raw_ends cdv))) :
  DSs (cxOf CX0 P w K mg base N_raw_ends "raw_ends" (defScope s_raw_ends) T.f_raw_ends cdv A outer s H E).nox (defBody s_raw_ends) t_raw_ends := by
  have hu := hu64 hr
  have hu1 := hu1_ hr
  have h : ∃ t, DSs (cxOf CX0 P w K mg base N_raw_ends "raw_ends" (defScope s_raw_ends) T.f_raw_ends cdv A outer s H E).nox (defBody s_raw_ends) t ∧ t = t_raw_ends := by
    refine ⟨_, (dss_cons (ds_set (i := 3) sc_raw_ends.nd rfl (DF.x (df_op op_repF (DE.dl (DF.de (df_lst (da_cons de_int da_nil)))) (DE.dl (de_callB call_lenP (by rfl) T.m_len bt_len (dls_cons (dl_var 0) dls_nil))))) (by first | exact .inl rfl | exact .inr rfl))
  (dss_cons (ds_for PassesOwn.never rfl (di_seq (de_var 2)) (dg_name (i := 4) sc_raw_ends.nd rfl (by first | exact .inl rfl | exact .inr rfl) (by first | exact .inl rfl | exact .inr rfl)) (dss_cons (ds_put hu1 (de_op op_addD (DE.dl (de_ix hu (dl_var 1) (dl_var 4))) (DE.dl (de_callB (call_maxP rfl hu) (by rfl) T.m_max bt_max (dls_cons (DE.dl (de_op op_addD (DE.dl (DF.de (df_lst (da_cons de_int da_nil)))) (DE.dl (DF.de (df_lc rfl sc_raw_ends.nd (DI.lo (di_seq (de_ix hu (dl_var 0) (dl_var 4)))) (blkOk_by (own := [("need", 5)]) (N := N_raw_ends) (sc := defScope s_raw_ends) (by decide +kernel)) (fun _ _ _ _ _ => (dg_name (i := 5) sc_raw_ends.nd rfl (by first | exact .inl rfl | exact .inr rfl) (by first | exact .inl rfl | exact .inr rfl))) (fun _ _ _ _ _ => dts_nil) (fun _ _ _ _ _ => (de_ix hu (dl_var 3) (dl_var 5))) (by decide)))))) dls_nil)))) (pv 3) (de_var 4))
  dss_nil))
  (dss_cons (ds_retV (pv 3))
  dss_nil))), ?_⟩
    rfl
  obtain ⟨t, h1, h2⟩ := h
  rw [← h2]
  exact h1
theorem wk_ends_of {P : Program} {w : World} {K : PySem.W.Frag} {mg : Str → Option Value} {base : Heap} (T : Txt K mg) {k : Nat}
  {S_check_times : FSpec} (mono_check_times : MonoF S_check_times) (G_check_times : FnOk P w K mg base CX0 k T.f_check_times T.d_check_times P_check_times (spD K false S_check_times))
  {S_raw_ends : FSpec} (mono_raw_ends : MonoF S_raw_ends) (G_raw_ends : FnOk P w K mg base CX0 k T.f_raw_ends T.d_raw_ends P_raw_ends (spD K false S_raw_ends))
  (cdv : Value) (A : Around) (outer : List Env) (s : Shared) (H : Hp) (E : XK) (hr : Room k (A.deeper (envOfC "ends_of" (defScope s_ends_of) s.heap.objs.size T.f_ends_of cdv))) :
  DSs (cxOf CX0 P w K mg base N_ends_of "ends_of" (defScope s_ends_of) T.f_ends_of cdv A outer s H E).nox (defBody s_ends_of) (t_ends_of S_check_times S_raw_ends) := by
  have hu := hu64 hr
  have hu1 := hu1_ hr
  have h : ∃ t, DSs (cxOf CX0 P w K mg base N_ends_of "ends_of" (defScope s_ends_of) T.f_ends_of cdv A outer s H E).nox (defBody s_ends_of) t ∧ t = t_ends_of S_check_times S_raw_ends := by
    refine ⟨_, (dss_cons (ds_set (i := 2) sc_ends_of.nd rfl (DE.x (de_call G_check_times mono_check_times hr (by rfl) T.g_check_times T.F_check_times.kp T.b_check_times pass0 (dv_cons (de_var 0) (dv_cons (de_var 1) dv_nil)))) (by first | exact .inl rfl | exact .inr rfl))
  (dss_cons (ds_ret (DE.x (de_callTy call_tupleP (by rfl) T.m_tuple bt_tuple (dls_cons (DE.dl (de_call G_raw_ends mono_raw_ends hr (by rfl) T.g_raw_ends T.F_raw_ends.kp T.b_raw_ends pass0 (dv_cons (de_var 0) (dv_cons (de_var 1) (dv_cons (de_var 2) dv_nil))))) dls_nil))))
  dss_nil)), ?_⟩
    rfl
  obtain ⟨t, h1, h2⟩ := h
  rw [← h2]
  exact h1
theorem wk_rows_to {P : Program} {w : World} {K : PySem.W.Frag} {mg : Str → Option Value} {base : Heap} (T : Txt K mg) {k : Nat}
  {S_least_order : FSpec} (mono_least_order : MonoF S_least_order) (G_least_order : FnOk P w K mg base CX0 k T.f_least_order T.d_least_order P_least_order (spD K false S_least_order))
  (cdv : Value) (A : Around) (outer : List Env) (s : Shared) (H : Hp) (E : XK) (hr : Room k (A.deeper (envOfC "rows_to" (defScope s_rows_to) s.heap.objs.size T.f_rows_to cdv))) :
  DSs (cxOf CX0 P w K mg base N_rows_to "rows_to" (defScope s_rows_to) T.f_rows_to cdv A outer s H E).nox (defBody s_rows_to) (t_rows_to S_least_order) := by
  have hu := hu64 hr
  have hu1 := hu1_ hr
  have h : ∃ t, DSs (cxOf CX0 P w K mg base N_rows_to "rows_to" (defScope s_rows_to) T.f_rows_to cdv A outer s H E).nox (defBody s_rows_to) t ∧ t = t_rows_to S_least_order := by
    refine ⟨_, (dss_cons (ds_set (i := 3) sc_rows_to.nd rfl (DF.x df_dicK) (by first | exact .inl rfl | exact .inr rfl))
  (dss_cons (ds_for PassesOwn.never rfl (di_seq (de_call G_least_order mono_least_order hr (by rfl) T.g_least_order T.F_least_order.kp T.b_least_order pass0 (dv_cons (de_var 0) dv_nil))) (dg_name (i := 4) sc_rows_to.nd rfl (by first | exact .inl rfl | exact .inr rfl) (by first | exact .inl rfl | exact .inr rfl)) (dss_cons (ds_set (i := 5) sc_rows_to.nd rfl (DE.x (de_op op_subD (DE.dl (de_ix hu (dl_var 2) (dl_var 4))) (DE.dl (de_ix hu (dl_var 1) (dl_var 4))))) (by first | exact .inl rfl | exact .inr rfl))
  (dss_cons (ds_setLc (i := 6) rfl sc_rows_to.nd rfl rfl (sw_true rfl rfl rfl (by decide +kernel)) (DI.lo (di_seq (de_ix hu (dl_var 0) (dl_var 4)))) (blkOk_by (own := [("need", 7)]) (N := N_rows_to) (sc := defScope s_rows_to) (by decide +kernel)) (fun _ _ _ _ _ => (dg_name (i := 7) sc_rows_to.nd rfl (by first | exact .inl rfl | exact .inr rfl) (by first | exact .inl rfl | exact .inr rfl))) (fun _ _ _ _ _ => (dts_one (dt_cmp (op_eqP hu) (DE.dl (de_ix hu (dl_var 2) (dl_var 7))) (dl_var 5)))) (fun _ _ _ _ _ => (de_op op_addD (DE.dl (de_ix hu (dl_var 3) (dl_var 7))) (DE.dl (de_tup (da_cons (de_var 4) da_nil))))) (by decide))
  (dss_cons (ds_put hu1 (de_callB (call_minP rfl hu) (by rfl) T.m_min bt_min (dls_cons (DE.dl (de_op op_addD (dl_var 6) (DE.dl (de_op op_mulD (DE.dl (DF.de (df_lst (da_cons (de_tup (da_cons (de_var 4) da_nil)) da_nil)))) (DE.dl (de_callTy call_intP (by rfl) T.m_int bt_int (dls_cons (DE.dl (de_cmp (op_eqP hu) (dl_var 5) (DE.dl de_int))) dls_nil))))))) dls_nil)) (pv 3) (de_var 4))
  dss_nil))))
  (dss_cons (ds_retV (pv 3))
  dss_nil))), ?_⟩
    rfl
  obtain ⟨t, h1, h2⟩ := h
  rw [← h2]
  exact h1
theorem wk_longest_row {P : Program} {w : World} {K : PySem.W.Frag} {mg : Str → Option Value} {base : Heap} (T : Txt K mg) {k : Nat}
  {S_check_times : FSpec} (mono_check_times : MonoF S_check_times) (G_check_times : FnOk P w K mg base CX0 k T.f_check_times T.d_check_times P_check_times (spD K false S_check_times))
  {S_raw_ends : FSpec} (mono_raw_ends : MonoF S_raw_ends) (G_raw_ends : FnOk P w K mg base CX0 k T.f_raw_ends T.d_raw_ends P_raw_ends (spD K false S_raw_ends))
  {S_rows_to : FSpec} (mono_rows_to : MonoF S_rows_to) (G_rows_to : FnOk P w K mg base CX0 k T.f_rows_to T.d_rows_to P_rows_to (spD K false S_rows_to))
  (cdv : Value) (A : Around) (outer : List Env) (s : Shared) (H : Hp) (E : XK) (hr : Room k (A.deeper (envOfC "longest_row" (defScope s_longest_row) s.heap.objs.size T.f_longest_row cdv))) :
  DSs (cxOf CX0 P w K mg base N_longest_row "longest_row" (defScope s_longest_row) T.f_longest_row cdv A outer s H E).nox (defBody s_longest_row) (t_longest_row S_check_times S_raw_ends S_rows_to) := by
  have hu := hu64 hr
  have hu1 := hu1_ hr
  have h : ∃ t, DSs (cxOf CX0 P w K mg base N_longest_row "longest_row" (defScope s_longest_row) T.f_longest_row cdv A outer s H E).nox (defBody s_longest_row) t ∧ t = t_longest_row S_check_times S_raw_ends S_rows_to := by
    refine ⟨_, (dss_cons (ds_set (i := 2) sc_longest_row.nd rfl (DE.x (de_call G_check_times mono_check_times hr (by rfl) T.g_check_times T.F_check_times.kp T.b_check_times pass0 (dv_cons (de_var 0) (dv_cons (de_var 1) dv_nil)))) (by first | exact .inl rfl | exact .inr rfl))
  (dss_cons (ds_set (i := 3) sc_longest_row.nd rfl (DE.x (de_call G_raw_ends mono_raw_ends hr (by rfl) T.g_raw_ends T.F_raw_ends.kp T.b_raw_ends pass0 (dv_cons (de_var 0) (dv_cons (de_var 1) (dv_cons (de_var 2) dv_nil))))) (by first | exact .inl rfl | exact .inr rfl))
  (dss_cons (ds_set (i := 4) sc_longest_row.nd rfl (DE.x (de_call G_rows_to mono_rows_to hr (by rfl) T.g_rows_to T.F_rows_to.kp T.b_rows_to pass0 (dv_cons (de_var 0) (dv_cons (de_var 1) (dv_cons (de_var 3) dv_nil))))) (by first | exact .inl rfl | exact .inr rfl))
  (dss_cons (ds_ret (DE.x (de_tup (da_cons (de_callB (call_maxP rfl hu) (by rfl) T.m_max bt_max (dls_cons (dl_var 3) dls_nil)) (da_cons (de_callB (call_minP rfl hu) (by rfl) T.m_min bt_min (dls_cons (DE.dl (DF.de (df_lc rfl sc_longest_row.nd (DI.lo (di_rng1 (by rfl) T.m_range (da_cons (de_callB call_lenP (by rfl) T.m_len bt_len (dls_cons (dl_var 0) dls_nil)) da_nil))) (blkOk_by (own := [("number", 5)]) (N := N_longest_row) (sc := defScope s_longest_row) (by decide +kernel)) (fun _ _ _ _ _ => (dg_name (i := 5) sc_longest_row.nd rfl (by first | exact .inl rfl | exact .inr rfl) (by first | exact .inl rfl | exact .inr rfl))) (fun _ _ _ _ _ => (dts_one (dt_cmp (op_eqP hu) (DE.dl (de_ix hu (dl_var 3) (dl_var 5))) (DE.dl (de_callB (call_maxP rfl hu) (by rfl) T.m_max bt_max (dls_cons (dl_var 3) dls_nil)))))) (fun _ _ _ _ _ => (de_ix hu (dl_var 4) (dl_var 5))) (by decide)))) dls_nil)) da_nil)))))
  dss_nil)))), ?_⟩
    rfl
  obtain ⟨t, h1, h2⟩ := h
  rw [← h2]
  exact h1
theorem wk_slacks_of {P : Program} {w : World} {K : PySem.W.Frag} {mg : Str → Option Value} {base : Heap} (T : Txt K mg) {k : Nat}
  {S_check_times : FSpec} (mono_check_times : MonoF S_check_times) (G_check_times : FnOk P w K mg base CX0 k T.f_check_times T.d_check_times P_check_times (spD K false S_check_times))
  {S_raw_ends : FSpec} (mono_raw_ends : MonoF S_raw_ends) (G_raw_ends : FnOk P w K mg base CX0 k T.f_raw_ends T.d_raw_ends P_raw_ends (spD K false S_raw_ends))
  (cdv : Value) (A : Around) (outer : List Env) (s : Shared) (H : Hp) (E : XK) (hr : Room k (A.deeper (envOfC "slacks_of" (defScope s_slacks_of) s.heap.objs.size T.f_slacks_of cdv))) :
  DSs (cxOf CX0 P w K mg base N_slacks_of "slacks_of" (defScope s_slacks_of) T.f_slacks_of cdv A outer s H E).nox (defBody s_slacks_of) (t_slacks_of S_check_times S_raw_ends) := by
  have hu := hu64 hr
  have hu1 := hu1_ hr
  have h : ∃ t, DSs (cxOf CX0 P w K mg base N_slacks_of "slacks_of" (defScope s_slacks_of) T.f_slacks_of cdv A outer s H E).nox (defBody s_slacks_of) t ∧ t = t_slacks_of S_check_times S_raw_ends := by
    refine ⟨_, (dss_cons (ds_set (i := 2) sc_slacks_of.nd rfl (DE.x (de_call G_check_times mono_check_times hr (by rfl) T.g_check_times T.F_check_times.kp T.b_check_times pass0 (dv_cons (de_var 0) (dv_cons (de_var 1) dv_nil)))) (by first | exact .inl rfl | exact .inr rfl))
  (dss_cons (ds_set (i := 3) sc_slacks_of.nd rfl (DE.x (de_call G_raw_ends mono_raw_ends hr (by rfl) T.g_raw_ends T.F_raw_ends.kp T.b_raw_ends pass0 (dv_cons (de_var 0) (dv_cons (de_var 1) (dv_cons (de_var 2) dv_nil))))) (by first | exact .inl rfl | exact .inr rfl))
  (dss_cons (ds_set (i := 4) sc_slacks_of.nd rfl (DF.x (df_op op_repF (DE.dl (DF.de (df_lst (da_cons (de_callB (call_maxP rfl hu) (by rfl) T.m_max bt_max (dls_cons (dl_var 3) dls_nil)) da_nil)))) (DE.dl (de_callB call_lenP (by rfl) T.m_len bt_len (dls_cons (dl_var 0) dls_nil))))) (by first | exact .inl rfl | exact .inr rfl))
  (dss_cons (ds_for PassesOwn.never rfl (di_seq (de_rev (dl_var 2))) (dg_name (i := 5) sc_slacks_of.nd rfl (by first | exact .inl rfl | exact .inr rfl) (by first | exact .inl rfl | exact .inr rfl)) (dss_cons (ds_for PassesOwn.never rfl (di_seq (de_ix hu (dl_var 0) (dl_var 5))) (dg_name (i := 6) sc_slacks_of.nd rfl (by first | exact .inl rfl | exact .inr rfl) (by first | exact .inl rfl | exact .inr rfl)) (dss_cons (ds_put hu1 (de_callB (call_min2P rfl) (by rfl) T.m_min bt_min (dls_cons (DE.dl (de_ix hu (dl_var 4) (dl_var 6))) (dls_cons (DE.dl (de_op op_subD (DE.dl (de_ix hu (dl_var 4) (dl_var 5))) (DE.dl (de_ix hu (dl_var 1) (dl_var 5))))) dls_nil))) (pv 4) (de_var 6))
  dss_nil))
  dss_nil))
  (dss_cons (ds_ret (DE.x (de_callTy call_tupleP (by rfl) T.m_tuple bt_tuple (dls_cons (DE.dl (DF.de (df_lc rfl sc_slacks_of.nd (DI.lo (di_zip (by rfl) T.m_zip (da_cons (de_var 4) (da_cons (de_var 3) da_nil)))) (blkOk_by (own := [("late", 7), ("end", 8)]) (N := N_slacks_of) (sc := defScope s_slacks_of) (by decide +kernel)) (fun _ _ _ _ _ => (dg_tup (n := 2) rfl (dgs_cons (dg_name (i := 7) sc_slacks_of.nd rfl (by first | exact .inl rfl | exact .inr rfl) (by first | exact .inl rfl | exact .inr rfl)) (dgs_cons (dg_name (i := 8) sc_slacks_of.nd rfl (by first | exact .inl rfl | exact .inr rfl) (by first | exact .inl rfl | exact .inr rfl)) dgs_nil)))) (fun _ _ _ _ _ => dts_nil) (fun _ _ _ _ _ => (de_op op_subD (dl_var 7) (dl_var 8))) (by decide)))) dls_nil))))
  dss_nil))))), ?_⟩
    rfl
  obtain ⟨t, h1, h2⟩ := h
  rw [← h2]
  exact h1
theorem wk__law_draw {P : Program} {w : World} {K : PySem.W.Frag} {mg : Str → Option Value} {base : Heap} (T : Txt K mg) {k : Nat}
  (cdv : Value) (A : Around) (outer : List Env) (s : Shared) (H : Hp) (E : XK) (hr : Room k (A.deeper (envOfC "_law_draw" (defScope s__law_draw) s.heap.objs.size T.f__law_draw cdv))) :
  DSs (cxOf CX0 P w K mg base N__law_draw "_law_draw" (defScope s__law_draw) T.f__law_draw cdv A outer s H E).nox (defBody s__law_draw) t__law_draw := by
  have hu := hu64 hr
  have hu1 := hu1_ hr
  have h : ∃ t, DSs (cxOf CX0 P w K mg base N__law_draw "_law_draw" (defScope s__law_draw) T.f__law_draw cdv A outer s H E).nox (defBody s__law_draw) t ∧ t = t__law_draw := by
    refine ⟨_, (dss_cons (ds_if (DW.dt (dw_and (dt_cmp (op_eqP hu) (DE.dl (de_hix hu (pv 0) de_int)) (DE.dl de_int)) (dw_and1 (dt_cmp (op_ltP hu) (DE.dl (de_hix hu (pv 0) de_int)) (DE.dl (de_callB call_lenP (by rfl) T.m_len bt_len (dls_cons (DE.dl (de_hix hu (pv 0) de_int)) dls_nil))))))) (dss_cons (ds_set (i := 2) sc__law_draw.nd rfl (DE.x (de_ix hu (DE.dl (de_hix hu (pv 0) de_int)) (DE.dl (de_hix hu (pv 0) de_int)))) (by first | exact .inl rfl | exact .inr rfl))
  (dss_cons (ds_put hu1 (de_op op_addD (DE.dl (de_hix hu (pv 0) de_int)) (DE.dl de_int)) (pv 0) de_int)
  (dss_cons (ds_put hu1 (de_op op_modD (DE.dl (de_callTy call_intP (by rfl) T.m_int bt_int (dls_cons (DE.dl (de_op op_addD (DE.dl (de_op op_addD (DE.dl (de_op op_mulD (DE.dl (de_hix hu (pv 0) de_int)) (DE.dl de_int))) (DE.dl (de_op op_mulD (dl_var 2) (DE.dl de_int))))) (DE.dl de_int))) dls_nil))) (DE.dl de_int)) (pv 0) de_int)
  (dss_cons (ds_if (dt_cmp (op_geP hu) (dl_var 2) (DE.dl (de_op op_powD (DE.dl de_int) (DE.dl de_int)))) (dss_cons (ds_put hu1 (de_var 2) (pv 0) de_int)
  dss_nil) dss_nil)
  dss_nil)))) dss_nil)
  (dss_cons (ds_if (dt_cmp (op_gtP hu) (DE.dl (de_hix hu (pv 0) de_int)) (DE.dl de_int)) (dss_cons (ds_set (i := 3) sc__law_draw.nd rfl (DE.x (de_op op_modD (DE.dl (de_callTy call_intP (by rfl) T.m_int bt_int (dls_cons (DE.dl (de_hix hu (pv 0) de_int)) dls_nil))) (dl_var 1))) (by first | exact .inl rfl | exact .inr rfl))
  (dss_cons (ds_put hu1 (de_op op_divD (DE.dl (de_hix hu (pv 0) de_int)) (dl_var 1)) (pv 0) de_int)
  (dss_cons (ds_ret (DE.x (de_var 3)))
  dss_nil))) dss_nil)
  (dss_cons (ds_put hu1 (de_op op_addD (DE.dl (de_hix hu (pv 0) de_int)) (DE.dl de_int)) (pv 0) de_int)
  (dss_cons (ds_set (i := 4) sc__law_draw.nd rfl (DE.x (de_op op_modD (DE.dl (de_callTy call_intP (by rfl) T.m_int bt_int (dls_cons (DE.dl (de_op op_mulD (DE.dl (de_callTy call_intP (by rfl) T.m_int bt_int (dls_cons (DE.dl (de_op op_addD (DE.dl (de_hix hu (pv 0) de_int)) (DE.dl (de_op op_mulD (DE.dl de_int) (DE.dl (de_hix hu (pv 0) de_int)))))) dls_nil))) (DE.dl de_int))) dls_nil))) (DE.dl de_int))) (by first | exact .inl rfl | exact .inr rfl))
  (dss_cons (ds_set (i := 4) sc__law_draw.nd rfl (DE.x (de_op op_modD (DE.dl (de_callTy call_intP (by rfl) T.m_int bt_int (dls_cons (DE.dl (de_op op_mulD (dl_var 4) (DE.dl (de_op op_addD (DE.dl (de_op op_divD (dl_var 4) (DE.dl de_int))) (DE.dl de_int))))) dls_nil))) (DE.dl de_int))) (by first | exact .inl rfl | exact .inr rfl))
  (dss_cons (ds_set (i := 4) sc__law_draw.nd rfl (DE.x (de_op op_modD (DE.dl (de_callTy call_intP (by rfl) T.m_int bt_int (dls_cons (DE.dl (de_op op_mulD (dl_var 4) (DE.dl (de_op op_addD (DE.dl (de_op op_divD (dl_var 4) (DE.dl de_int))) (DE.dl de_int))))) dls_nil))) (DE.dl de_int))) (by first | exact .inl rfl | exact .inr rfl))
  (dss_cons (ds_ret (DE.x (de_op op_modD (DE.dl (de_callTy call_intP (by rfl) T.m_int bt_int (dls_cons (DE.dl (de_op op_divD (dl_var 4) (DE.dl de_int))) dls_nil))) (dl_var 1))))
  dss_nil))))))), ?_⟩
    rfl
  obtain ⟨t, h1, h2⟩ := h
  rw [← h2]
  exact h1
theorem wk__law_any {P : Program} {w : World} {K : PySem.W.Frag} {mg : Str → Option Value} {base : Heap} (T : Txt K mg) {k : Nat}
  {S__law_draw : FSpec} (mono__law_draw : MonoF S__law_draw) (G__law_draw : FnOk P w K mg base CX0 k T.f__law_draw T.d__law_draw P__law_draw (spD K false S__law_draw))
  (cdv : Value) (A : Around) (outer : List Env) (s : Shared) (H : Hp) (E : XK) (hr : Room k (A.deeper (envOfC "_law_any" (defScope s__law_any) s.heap.objs.size T.f__law_any cdv))) :
  DSs (cxOf CX0 P w K mg base N__law_any "_law_any" (defScope s__law_any) T.f__law_any cdv A outer s H E).nox (defBody s__law_any) (t__law_any S__law_draw) := by
  have hu := hu64 hr
  have hu1 := hu1_ hr
  have h : ∃ t, DSs (cxOf CX0 P w K mg base N__law_any "_law_any" (defScope s__law_any) T.f__law_any cdv A outer s H E).nox (defBody s__law_any) t ∧ t = t__law_any S__law_draw := by
    refine ⟨_, (dss_cons (ds_ret (DE.x (de_ix hu (dl_var 1) (DE.dl (de_call G__law_draw mono__law_draw hr (by rfl) T.g__law_draw T.F__law_draw.kp T.b__law_draw pass0 (dv_hand (pv 0) (dv_cons (de_callB call_lenP (by rfl) T.m_len bt_len (dls_cons (dl_var 1) dls_nil)) dv_nil)))))))
  dss_nil), ?_⟩
    rfl
  obtain ⟨t, h1, h2⟩ := h
  rw [← h2]
  exact h1
theorem wk__law_mixed {P : Program} {w : World} {K : PySem.W.Frag} {mg : Str → Option Value} {base : Heap} (T : Txt K mg) {k : Nat}
  {S__law_draw : FSpec} (mono__law_draw : MonoF S__law_draw) (G__law_draw : FnOk P w K mg base CX0 k T.f__law_draw T.d__law_draw P__law_draw (spD K false S__law_draw))
  (cdv : Value) (A : Around) (outer : List Env) (s : Shared) (H : Hp) (E : XK) (hr : Room k (A.deeper (envOfC "_law_mixed" (defScope s__law_mixed) s.heap.objs.size T.f__law_mixed cdv))) :
  DSs (cxOf CX0 P w K mg base N__law_mixed "_law_mixed" (defScope s__law_mixed) T.f__law_mixed cdv A outer s H E).nox (defBody s__law_mixed) (t__law_mixed S__law_draw) := by
  have hu := hu64 hr
  have hu1 := hu1_ hr
  have h : ∃ t, DSs (cxOf CX0 P w K mg base N__law_mixed "_law_mixed" (defScope s__law_mixed) T.f__law_mixed cdv A outer s H E).nox (defBody s__law_mixed) t ∧ t = t__law_mixed S__law_draw := by
    refine ⟨_, (dss_cons (ds_par2 (i := 2) (j := 3) rfl sc__law_mixed.nd rfl rfl (dm_cons (DF.x (df_callTy call_listP (by rfl) T.m_list bt_list (dls_cons (dl_var 1) dls_nil))) (dm_cons (DF.x (df_lst da_nil)) dm_nil)))
  (dss_cons (ds_while PassesOwn.never (dt_cmp (op_gtP hu) (DE.dl (de_callB call_lenP (by rfl) T.m_len bt_len (dls_cons (dl_var 2) dls_nil))) (DE.dl de_int)) (dss_cons (ds_expr (de_append (pv 3) (de_popAt (pv 2) (de_call G__law_draw mono__law_draw hr (by rfl) T.g__law_draw T.F__law_draw.kp T.b__law_draw pass0 (dv_hand (pv 0) (dv_cons (de_callB call_lenP (by rfl) T.m_len bt_len (dls_cons (dl_var 2) dls_nil)) dv_nil))))))
  dss_nil))
  (dss_cons (ds_retV (pv 3))
  dss_nil))), ?_⟩
    rfl
  obtain ⟨t, h1, h2⟩ := h
  rw [← h2]
  exact h1
theorem wk__law_same {P : Program} {w : World} {K : PySem.W.Frag} {mg : Str → Option Value} {base : Heap} (T : Txt K mg) {k : Nat}
  {S__law_same : FSpec} (mono__law_same : MonoF S__law_same) (G__law_same : FnOk P w K mg base CX0 k T.f__law_same T.d__law_same P__law_same (spD K false S__law_same))
  (cdv : Value) (A : Around) (outer : List Env) (s : Shared) (H : Hp) (E : XK) (hr : Room k (A.deeper (envOfC "_law_same" (defScope s__law_same) s.heap.objs.size T.f__law_same cdv))) :
  DSs (cxOf CX0 P w K mg base N__law_same "_law_same" (defScope s__law_same) T.f__law_same cdv A outer s H E).nox (defBody s__law_same) (t__law_same S__law_same) := by
  have hu := hu64 hr
  have hu1 := hu1_ hr
  have h : ∃ t, DSs (cxOf CX0 P w K mg base N__law_same "_law_same" (defScope s__law_same) T.f__law_same cdv A outer s H E).nox (defBody s__law_same) t ∧ t = t__law_same S__law_same := by
    refine ⟨_, (dss_cons (ds_if (DW.dt (dw_or (dt_val (de_isa isa_tuple (dl_var 1) (by rfl) T.m_isinstance bt_isinstance (by rfl) T.m_tuple bt_tuple)) (dw_or1 (dt_val (de_isa isa_list (dl_var 1) (by rfl) T.m_isinstance bt_isinstance (by rfl) T.m_list bt_list))))) (dss_cons (ds_if (DW.dt (dw_or (dt_cmp (op_neP hu) (DE.dl (de_isa isa_tuple (dl_var 0) (by rfl) T.m_isinstance bt_isinstance (by rfl) T.m_tuple bt_tuple)) (DE.dl (de_isa isa_tuple (dl_var 1) (by rfl) T.m_isinstance bt_isinstance (by rfl) T.m_tuple bt_tuple))) (dw_or1 (dt_cmp (op_neP hu) (DE.dl (de_isa isa_list (dl_var 0) (by rfl) T.m_isinstance bt_isinstance (by rfl) T.m_list bt_list)) (DE.dl (de_isa isa_list (dl_var 1) (by rfl) T.m_isinstance bt_isinstance (by rfl) T.m_list bt_list)))))) (dss_cons (ds_ret (DE.x de_bl))
  dss_nil) dss_nil)
  (dss_cons (ds_ret (DE.x (de_and (de_cmp (op_eqP hu) (DE.dl (de_callB call_lenP (by rfl) T.m_len bt_len (dls_cons (dl_var 0) dls_nil))) (DE.dl (de_callB call_lenP (by rfl) T.m_len bt_len (dls_cons (dl_var 1) dls_nil)))) (de_one (de_callB (call_allP rfl) (by rfl) T.m_all bt_all (dls_cons (DE.dl (DF.de (df_lc rfl sc__law_same.nd (DI.lo (di_zip (by rfl) T.m_zip (da_cons (de_var 0) (da_cons (de_var 1) da_nil)))) (blkOk_by (own := [("a", 2), ("b", 3)]) (N := N__law_same) (sc := defScope s__law_same) (by decide +kernel)) (fun _ _ _ _ _ => (dg_tup (n := 2) rfl (dgs_cons (dg_name (i := 2) sc__law_same.nd rfl (by first | exact .inl rfl | exact .inr rfl) (by first | exact .inl rfl | exact .inr rfl)) (dgs_cons (dg_name (i := 3) sc__law_same.nd rfl (by first | exact .inl rfl | exact .inr rfl) (by first | exact .inl rfl | exact .inr rfl)) dgs_nil)))) (fun _ _ _ _ _ => dts_nil) (fun _ _ _ _ _ => (de_call G__law_same mono__law_same hr (by rfl) T.g__law_same T.F__law_same.kp T.b__law_same pass0 (dv_cons (de_var 2) (dv_cons (de_var 3) dv_nil)))) (by decide)))) dls_nil))))))
  dss_nil)) dss_nil)
  (dss_cons (ds_if (DW.dt (dw_or (dt_cmp (op_neP hu) (DE.dl (de_isa isa_bool (dl_var 0) (by rfl) T.m_isinstance bt_isinstance (by rfl) T.m_bool bt_bool)) (DE.dl (de_isa isa_bool (dl_var 1) (by rfl) T.m_isinstance bt_isinstance (by rfl) T.m_bool bt_bool))) (dw_or1 (dt_cmp (op_neP hu) (DE.dl (de_cmp op_isP (dl_var 0) (DE.dl de_non))) (DE.dl (de_cmp op_isP (dl_var 1) (DE.dl de_non))))))) (dss_cons (ds_ret (DE.x de_bl))
  dss_nil) dss_nil)
  (dss_cons (ds_ret (DE.x (de_and (de_cmp (op_eqP hu) (DE.dl (de_isa isa_int (dl_var 0) (by rfl) T.m_isinstance bt_isinstance (by rfl) T.m_int bt_int)) (DE.dl (de_isa isa_int (dl_var 1) (by rfl) T.m_isinstance bt_isinstance (by rfl) T.m_int bt_int))) (de_one (de_cmp (op_eqP hu) (dl_var 0) (dl_var 1))))))
  dss_nil))), ?_⟩
    rfl
  obtain ⟨t, h1, h2⟩ := h
  rw [← h2]
  exact h1
theorem wk__law_is_integer {P : Program} {w : World} {K : PySem.W.Frag} {mg : Str → Option Value} {base : Heap} (T : Txt K mg) {k : Nat}
  (cdv : Value) (A : Around) (outer : List Env) (s : Shared) (H : Hp) (E : XK) (hr : Room k (A.deeper (envOfC "_law_is_integer" (defScope s__law_is_integer) s.heap.objs.size T.f__law_is_integer cdv))) :
  DSs (cxOf CX0 P w K mg base N__law_is_integer "_law_is_integer" (defScope s__law_is_integer) T.f__law_is_integer cdv A outer s H E).nox (defBody s__law_is_integer) t__law_is_integer := by
  have hu := hu64 hr
  have hu1 := hu1_ hr
  have h : ∃ t, DSs (cxOf CX0 P w K mg base N__law_is_integer "_law_is_integer" (defScope s__law_is_integer) T.f__law_is_integer cdv A outer s H E).nox (defBody s__law_is_integer) t ∧ t = t__law_is_integer := by
    refine ⟨_, (dss_cons (ds_ret (DE.x (de_and (de_isa isa_int (dl_var 0) (by rfl) T.m_isinstance bt_isinstance (by rfl) T.m_int bt_int) (de_one (de_not (DE.dl (de_isa isa_bool (dl_var 0) (by rfl) T.m_isinstance bt_isinstance (by rfl) T.m_bool bt_bool)))))))
  dss_nil), ?_⟩
    rfl
  obtain ⟨t, h1, h2⟩ := h
  rw [← h2]
  exact h1
theorem wk__law_round_free {P : Program} {w : World} {K : PySem.W.Frag} {mg : Str → Option Value} {base : Heap} (T : Txt K mg) {k : Nat}
  {S__law_draw : FSpec} (mono__law_draw : MonoF S__law_draw) (G__law_draw : FnOk P w K mg base CX0 k T.f__law_draw T.d__law_draw P__law_draw (spD K false S__law_draw))
  {S__law_any : FSpec} (mono__law_any : MonoF S__law_any) (G__law_any : FnOk P w K mg base CX0 k T.f__law_any T.d__law_any P__law_any (spD K false S__law_any))
  {S__law_mixed : FSpec} (mono__law_mixed : MonoF S__law_mixed) (G__law_mixed : FnOk P w K mg base CX0 k T.f__law_mixed T.d__law_mixed P__law_mixed (spD K false S__law_mixed))
  (cdv : Value) (A : Around) (outer : List Env) (s : Shared) (H : Hp) (E : XK) (hr : Room k (A.deeper (envOfC "_law_round_free" (defScope s__law_round_free) s.heap.objs.size T.f__law_round_free cdv))) :
  DSs (cxOf CX0 P w K mg base N__law_round_free "_law_round_free" (defScope s__law_round_free) T.f__law_round_free cdv A outer s H E).nox (defBody s__law_round_free) (t__law_round_free S__law_draw S__law_any S__law_mixed) := by
  have hu := hu64 hr
  have hu1 := hu1_ hr
  have h : ∃ t, DSs (cxOf CX0 P w K mg base N__law_round_free "_law_round_free" (defScope s__law_round_free) T.f__law_round_free cdv A outer s H E).nox (defBody s__law_round_free) t ∧ t = t__law_round_free S__law_draw S__law_any S__law_mixed := by
    refine ⟨_, (dss_cons (ds_set (i := 2) sc__law_round_free.nd rfl (DE.x (de_op op_addD (DE.dl de_int) (DE.dl (de_call G__law_draw mono__law_draw hr (by rfl) T.g__law_draw T.F__law_draw.kp T.b__law_draw pass0 (dv_hand (pv 0) (dv_cons (de_var 1) dv_nil)))))) (by first | exact .inl rfl | exact .inr rfl))
  (dss_cons (ds_par2 (i := 3) (j := 4) rfl sc__law_round_free.nd rfl rfl (dm_cons (DE.x (de_call G__law_mixed mono__law_mixed hr (by rfl) T.g__law_mixed T.F__law_mixed.kp T.b__law_mixed pass0 (dv_hand (pv 0) (dv_cons (DF.de (df_listRg rfl (by rfl) T.m_list (by rfl) T.m_range (de_var 2))) dv_nil)))) (dm_cons (DF.x (df_op op_repF (DE.dl (DF.de (df_lst (da_cons (de_tup da_nil) da_nil)))) (dl_var 2))) dm_nil)))
  (dss_cons (ds_set (i := 5) sc__law_round_free.nd rfl (DE.x (de_call G__law_any mono__law_any hr (by rfl) T.g__law_any T.F__law_any.kp T.b__law_any pass0 (dv_hand (pv 0) (dv_cons (DF.de (df_lst (da_cons de_int (da_cons de_int (da_cons de_int da_nil))))) dv_nil)))) (by first | exact .inl rfl | exact .inr rfl))
  (dss_cons (ds_for PassesOwn.never rfl (di_enum (by rfl) T.m_enumerate (da_cons (de_var 3) da_nil)) (dg_tup (n := 2) rfl (dgs_cons (dg_name (i := 6) sc__law_round_free.nd rfl (by first | exact .inl rfl | exact .inr rfl) (by first | exact .inl rfl | exact .inr rfl)) (dgs_cons (dg_name (i := 7) sc__law_round_free.nd rfl (by first | exact .inl rfl | exact .inr rfl) (by first | exact .inl rfl | exact .inr rfl)) dgs_nil))) (dss_cons (ds_put hu1 (de_callTy call_tupleP (by rfl) T.m_tuple bt_tuple (dls_cons (DE.dl (DF.de (df_callB (call_sortedP hu) (by rfl) T.m_sorted bt_sorted (dls_cons (DE.dl (DF.de (df_lc rfl sc__law_round_free.nd (DI.lo (di_seq (de_slice (dl_var 3) do_none (do_some (de_var 6))))) (blkOk_by (own := [("one", 8)]) (N := N__law_round_free) (sc := defScope s__law_round_free) (by decide +kernel)) (fun _ _ _ _ _ => (dg_name (i := 8) sc__law_round_free.nd rfl (by first | exact .inl rfl | exact .inr rfl) (by first | exact .inl rfl | exact .inr rfl))) (fun _ _ _ _ _ => (dts_one (dt_cmp (op_eqP hu) (DE.dl (de_call G__law_draw mono__law_draw hr (by rfl) T.g__law_draw T.F__law_draw.kp T.b__law_draw pass0 (dv_hand (pv 0) (dv_cons (de_var 5) dv_nil)))) (DE.dl de_int)))) (fun _ _ _ _ _ => (de_var 8)) (by decide)))) dls_nil)))) dls_nil)) (pv 4) (de_var 7))
  dss_nil))
  (dss_cons (ds_ret (DE.x (de_callTy call_tupleP (by rfl) T.m_tuple bt_tuple (dls_cons (dl_var 4) dls_nil))))
  dss_nil))))), ?_⟩
    rfl
  obtain ⟨t, h1, h2⟩ := h
  rw [← h2]
  exact h1
theorem wk__law_order {P : Program} {w : World} {K : PySem.W.Frag} {mg : Str → Option Value} {base : Heap} (T : Txt K mg) {k : Nat}
  (cdv : Value) (A : Around) (outer : List Env) (s : Shared) (H : Hp) (E : XK) (hr : Room k (A.deeper (envOfC "_law_order" (defScope s__law_order) s.heap.objs.size T.f__law_order cdv))) :
  DSs (cxOf CX0 P w K mg base N__law_order "_law_order" (defScope s__law_order) T.f__law_order cdv A outer s H E).nox (defBody s__law_order) t__law_order := by
  have hu := hu64 hr
  have hu1 := hu1_ hr
  have h : ∃ t, DSs (cxOf CX0 P w K mg base N__law_order "_law_order" (defScope s__law_order) T.f__law_order cdv A outer s H E).nox (defBody s__law_order) t ∧ t = t__law_order := by
    refine ⟨_, (dss_cons (ds_set (i := 1) sc__law_order.nd rfl (DE.x (DF.de (df_lst da_nil))) (by first | exact .inl rfl | exact .inr rfl))
  (dss_cons (ds_set (i := 2) sc__law_order.nd rfl (DE.x de_bl) (by first | exact .inl rfl | exact .inr rfl))
  (dss_cons (ds_while PassesOwn.never (dt_tru (dl_var 2)) (dss_cons (ds_setLc (i := 3) rfl sc__law_order.nd rfl rfl (sw_true rfl rfl rfl (by decide +kernel)) (DI.lo (di_rng1 (by rfl) T.m_range (da_cons (de_callB call_lenP (by rfl) T.m_len bt_len (dls_cons (dl_var 0) dls_nil)) da_nil))) (blkOk_by (own := [("one", 4)]) (N := N__law_order) (sc := defScope s__law_order) (by decide +kernel)) (fun _ _ _ _ _ => (dg_name (i := 4) sc__law_order.nd rfl (by first | exact .inl rfl | exact .inr rfl) (by first | exact .inl rfl | exact .inr rfl))) (fun _ _ _ _ _ => (dts_one (dt_val (de_callB (call_allP rfl) (by rfl) T.m_all bt_all (dls_cons (DE.dl (DF.de (df_lc rfl sc__law_order.nd (DI.lo (di_seq (de_ix hu (dl_var 0) (dl_var 4)))) (blkOk_by (own := [("other", 5)]) (N := N__law_order) (by kernel_rfl)) (fun _ _ _ _ _ => (dg_name (i := 5) sc__law_order.nd rfl (by first | exact .inl rfl | exact .inr rfl) (by first | exact .inl rfl | exact .inr rfl))) (fun _ _ _ _ _ => dts_nil) (fun _ _ _ _ _ => (de_cmp (op_inP hu) (dl_var 5) (dl_var 1))) (by decide)))) dls_nil))))) (fun _ _ _ _ _ => (de_var 4)) (by decide))
  (dss_cons (ds_setLc (i := 3) rfl sc__law_order.nd rfl rfl (sw_true rfl rfl rfl (by decide +kernel)) (di_seqL (dl_var 3)) (blkOk_by (own := [("one", 4)]) (N := N__law_order) (sc := defScope s__law_order) (by decide +kernel)) (fun _ _ _ _ _ => (dg_name (i := 4) sc__law_order.nd rfl (by first | exact .inl rfl | exact .inr rfl) (by first | exact .inl rfl | exact .inr rfl))) (fun _ _ _ _ _ => (dts_one (dt_cmp (op_notInP hu) (dl_var 4) (dl_var 1)))) (fun _ _ _ _ _ => (de_var 4)) (by decide))
  (dss_cons (ds_set (i := 2) sc__law_order.nd rfl (DE.x (de_cmp (op_gtP hu) (DE.dl (de_callB call_lenP (by rfl) T.m_len bt_len (dls_cons (dl_var 3) dls_nil))) (DE.dl de_int))) (by first | exact .inl rfl | exact .inr rfl))
  (dss_cons (ds_set (i := 1) sc__law_order.nd rfl (DE.x (de_op op_addD (dl_var 1) (DE.dl (de_slice (dl_var 3) do_none (do_some de_int))))) (by first | exact .inl rfl | exact .inr rfl))
  dss_nil)))))
  (dss_cons (ds_ret (DE.x (de_callTy call_tupleP (by rfl) T.m_tuple bt_tuple (dls_cons (dl_var 1) dls_nil))))
  dss_nil)))), ?_⟩
    rfl
  obtain ⟨t, h1, h2⟩ := h
  rw [← h2]
  exact h1
theorem wk__law_ends {P : Program} {w : World} {K : PySem.W.Frag} {mg : Str → Option Value} {base : Heap} (T : Txt K mg) {k : Nat}
  {S__law_order : FSpec} (mono__law_order : MonoF S__law_order) (G__law_order : FnOk P w K mg base CX0 k T.f__law_order T.d__law_order P__law_order (spD K false S__law_order))
  (cdv : Value) (A : Around) (outer : List Env) (s : Shared) (H : Hp) (E : XK) (hr : Room k (A.deeper (envOfC "_law_ends" (defScope s__law_ends) s.heap.objs.size T.f__law_ends cdv))) :
  DSs (cxOf CX0 P w K mg base N__law_ends "_law_ends" (defScope s__law_ends) T.f__law_ends cdv A outer s H E).nox (defBody s__law_ends) (t__law_ends S__law_order) := by
  have hu := hu64 hr
  have hu1 := hu1_ hr
  have h : ∃ t, DSs (cxOf CX0 P w K mg base N__law_ends "_law_ends" (defScope s__law_ends) T.f__law_ends cdv A outer s H E).nox (defBody s__law_ends) t ∧ t = t__law_ends S__law_order := by
    refine ⟨_, (dss_cons (ds_set (i := 2) sc__law_ends.nd rfl (DF.x (df_op op_repF (DE.dl (DF.de (df_lst (da_cons de_int da_nil)))) (DE.dl (de_callB call_lenP (by rfl) T.m_len bt_len (dls_cons (dl_var 0) dls_nil))))) (by first | exact .inl rfl | exact .inr rfl))
  (dss_cons (ds_for PassesOwn.never rfl (di_seq (de_call G__law_order mono__law_order hr (by rfl) T.g__law_order T.F__law_order.kp T.b__law_order pass0 (dv_cons (de_var 0) dv_nil))) (dg_name (i := 3) sc__law_ends.nd rfl (by first | exact .inl rfl | exact .inr rfl) (by first | exact .inl rfl | exact .inr rfl)) (dss_cons (ds_put hu1 (de_op op_addD (DE.dl (de_callB (call_maxP rfl hu) (by rfl) T.m_max bt_max (dls_cons (DE.dl (de_op op_addD (DE.dl (DF.de (df_lst (da_cons de_int da_nil)))) (DE.dl (DF.de (df_lc rfl sc__law_ends.nd (DI.lo (di_seq (de_ix hu (dl_var 0) (dl_var 3)))) (blkOk_by (own := [("other", 4)]) (N := N__law_ends) (sc := defScope s__law_ends) (by decide +kernel)) (fun _ _ _ _ _ => (dg_name (i := 4) sc__law_ends.nd rfl (by first | exact .inl rfl | exact .inr rfl) (by first | exact .inl rfl | exact .inr rfl))) (fun _ _ _ _ _ => dts_nil) (fun _ _ _ _ _ => (de_ix hu (dl_var 2) (dl_var 4))) (by decide)))))) dls_nil))) (DE.dl (de_ix hu (dl_var 1) (dl_var 3)))) (pv 2) (de_var 3))
  dss_nil))
  (dss_cons (ds_ret (DE.x (de_callTy call_tupleP (by rfl) T.m_tuple bt_tuple (dls_cons (dl_var 2) dls_nil))))
  dss_nil))), ?_⟩
    rfl
  obtain ⟨t, h1, h2⟩ := h
  rw [← h2]
  exact h1
theorem wk__law_times {P : Program} {w : World} {K : PySem.W.Frag} {mg : Str → Option Value} {base : Heap} (T : Txt K mg) {k : Nat}
  {S__law_draw : FSpec} (mono__law_draw : MonoF S__law_draw) (G__law_draw : FnOk P w K mg base CX0 k T.f__law_draw T.d__law_draw P__law_draw (spD K false S__law_draw))
  {S__law_any : FSpec} (mono__law_any : MonoF S__law_any) (G__law_any : FnOk P w K mg base CX0 k T.f__law_any T.d__law_any P__law_any (spD K false S__law_any))
  (cdv : Value) (A : Around) (outer : List Env) (s : Shared) (H : Hp) (E : XK) (hr : Room k (A.deeper (envOfC "_law_times" (defScope s__law_times) s.heap.objs.size T.f__law_times cdv))) :
  DSs (cxOf CX0 P w K mg base N__law_times "_law_times" (defScope s__law_times) T.f__law_times cdv A outer s H E).nox (defBody s__law_times) (t__law_times S__law_draw S__law_any) := by
  have hu := hu64 hr
  have hu1 := hu1_ hr
  have h : ∃ t, DSs (cxOf CX0 P w K mg base N__law_times "_law_times" (defScope s__law_times) T.f__law_times cdv A outer s H E).nox (defBody s__law_times) t ∧ t = t__law_times S__law_draw S__law_any := by
    refine ⟨_, (dss_cons (ds_set (i := 2) sc__law_times.nd rfl (DE.x (de_call G__law_any mono__law_any hr (by rfl) T.g__law_any T.F__law_any.kp T.b__law_any pass0 (dv_hand (pv 0) (dv_cons (DF.de (df_lst (da_cons de_int (da_cons de_int (da_cons de_int (da_cons de_int da_nil)))))) dv_nil)))) (by first | exact .inl rfl | exact .inr rfl))
  (dss_cons (ds_ret (DE.x (de_callTy call_tupleP (by rfl) T.m_tuple bt_tuple (dls_cons (DE.dl (DF.de (df_lc rfl sc__law_times.nd (DI.lo (di_rng1 (by rfl) T.m_range (da_cons (de_var 1) da_nil))) (blkOk_by (own := [("one", 3)]) (N := N__law_times) (sc := defScope s__law_times) (by decide +kernel)) (fun _ _ _ _ _ => (dg_name (i := 3) sc__law_times.nd rfl (by first | exact .inl rfl | exact .inr rfl) (by first | exact .inl rfl | exact .inr rfl))) (fun _ _ _ _ _ => dts_nil) (fun _ _ _ _ _ => (de_call G__law_draw mono__law_draw hr (by rfl) T.g__law_draw T.F__law_draw.kp T.b__law_draw pass0 (dv_hand (pv 0) (dv_cons (de_var 2) dv_nil)))) (by decide)))) dls_nil))))
  dss_nil)), ?_⟩
    rfl
  obtain ⟨t, h1, h2⟩ := h
  rw [← h2]
  exact h1
theorem wk__law_rows {P : Program} {w : World} {K : PySem.W.Frag} {mg : Str → Option Value} {base : Heap} (T : Txt K mg) {k : Nat}
  (cdv : Value) (A : Around) (outer : List Env) (s : Shared) (H : Hp) (E : XK) (hr : Room k (A.deeper (envOfC "_law_rows" (defScope s__law_rows) s.heap.objs.size T.f__law_rows cdv))) :
  DSs (cxOf CX0 P w K mg base N__law_rows "_law_rows" (defScope s__law_rows) T.f__law_rows cdv A outer s H E).nox (defBody s__law_rows) t__law_rows := by
  have hu := hu64 hr
  have hu1 := hu1_ hr
  have h : ∃ t, DSs (cxOf CX0 P w K mg base N__law_rows "_law_rows" (defScope s__law_rows) T.f__law_rows cdv A outer s H E).nox (defBody s__law_rows) t ∧ t = t__law_rows := by
    refine ⟨_, (dss_cons (ds_par2 (i := 1) (j := 2) rfl sc__law_rows.nd rfl rfl (dm_cons (DF.x (df_lst da_nil)) (dm_cons (DF.x (df_lc rfl sc__law_rows.nd (DI.lo (di_rng1 (by rfl) T.m_range (da_cons (de_callB call_lenP (by rfl) T.m_len bt_len (dls_cons (dl_var 0) dls_nil)) da_nil))) (blkOk_by (own := [("one", 3)]) (N := N__law_rows) (sc := defScope s__law_rows) (by decide +kernel)) (fun _ _ _ _ _ => (dg_name (i := 3) sc__law_rows.nd rfl (by first | exact .inl rfl | exact .inr rfl) (by first | exact .inl rfl | exact .inr rfl))) (fun _ _ _ _ _ => dts_nil) (fun _ _ _ _ _ => (de_tup (da_cons (de_var 3) da_nil))) (by decide))) dm_nil)))
  (dss_cons (ds_while PassesOwn.never (dt_cmp (op_gtP hu) (DE.dl (de_callB call_lenP (by rfl) T.m_len bt_len (dls_cons (dl_var 2) dls_nil))) (DE.dl de_int)) (dss_cons (ds_set (i := 4) sc__law_rows.nd rfl (DE.x (de_pop (pv 2))) (by first | exact .inl rfl | exact .inr rfl))
  (dss_cons (ds_expr (de_append (pv 1) (de_var 4)))
  (dss_cons (ds_expr (de_extend (pv 2) (DF.de (df_lc rfl sc__law_rows.nd (DI.lo (di_rng1 (by rfl) T.m_range (da_cons (de_callB call_lenP (by rfl) T.m_len bt_len (dls_cons (dl_var 0) dls_nil)) da_nil))) (blkOk_by (own := [("one", 3)]) (N := N__law_rows) (sc := defScope s__law_rows) (by decide +kernel)) (fun _ _ _ _ _ => (dg_name (i := 3) sc__law_rows.nd rfl (by first | exact .inl rfl | exact .inr rfl) (by first | exact .inl rfl | exact .inr rfl))) (fun _ _ _ _ _ => (dts_one (dt_cmp (op_inP hu) (DE.dl (de_ix hu (dl_var 4) (DE.dl (de_neg de_int)))) (DE.dl (de_ix hu (dl_var 0) (dl_var 3)))))) (fun _ _ _ _ _ => (de_op op_addD (dl_var 4) (DE.dl (de_tup (da_cons (de_var 3) da_nil))))) (by decide)))))
  dss_nil))))
  (dss_cons (ds_retV (pv 1))
  dss_nil))), ?_⟩
    rfl
  obtain ⟨t, h1, h2⟩ := h
  rw [← h2]
  exact h1
theorem wk__law_with {P : Program} {w : World} {K : PySem.W.Frag} {mg : Str → Option Value} {base : Heap} (T : Txt K mg) {k : Nat}
  (cdv : Value) (A : Around) (outer : List Env) (s : Shared) (H : Hp) (E : XK) (hr : Room k (A.deeper (envOfC "_law_with" (defScope s__law_with) s.heap.objs.size T.f__law_with cdv))) :
  DSs (cxOf CX0 P w K mg base N__law_with "_law_with" (defScope s__law_with) T.f__law_with cdv A outer s H E).nox (defBody s__law_with) t__law_with := by
  have hu := hu64 hr
  have hu1 := hu1_ hr
  have h : ∃ t, DSs (cxOf CX0 P w K mg base N__law_with "_law_with" (defScope s__law_with) T.f__law_with cdv A outer s H E).nox (defBody s__law_with) t ∧ t = t__law_with := by
    refine ⟨_, (dss_cons (ds_ret (DE.x (de_op op_addD (DE.dl (de_op op_addD (DE.dl (de_slice (dl_var 0) do_none (do_some (de_var 1)))) (DE.dl (de_tup (da_cons (de_op op_addD (DE.dl (de_ix hu (dl_var 0) (dl_var 1))) (dl_var 2)) da_nil))))) (DE.dl (de_slice (dl_var 0) (do_some (de_op op_addD (dl_var 1) (DE.dl de_int))) do_none)))))
  dss_nil), ?_⟩
    rfl
  obtain ⟨t, h1, h2⟩ := h
  rw [← h2]
  exact h1
theorem wk__law_is_right {P : Program} {w : World} {K : PySem.W.Frag} {mg : Str → Option Value} {base : Heap} (T : Txt K mg) {k : Nat}
  {S_ends_of : FSpec} (mono_ends_of : MonoF S_ends_of) (G_ends_of : FnOk P w K mg base CX0 k T.f_ends_of T.d_ends_of P_ends_of (spD K false S_ends_of))
  {S_longest_row : FSpec} (mono_longest_row : MonoF S_longest_row) (G_longest_row : FnOk P w K mg base CX0 k T.f_longest_row T.d_longest_row P_longest_row (spD K false S_longest_row))
  {S_slacks_of : FSpec} (mono_slacks_of : MonoF S_slacks_of) (G_slacks_of : FnOk P w K mg base CX0 k T.f_slacks_of T.d_slacks_of P_slacks_of (spD K false S_slacks_of))
  {S__law_draw : FSpec} (mono__law_draw : MonoF S__law_draw) (G__law_draw : FnOk P w K mg base CX0 k T.f__law_draw T.d__law_draw P__law_draw (spD K false S__law_draw))
  {S__law_same : FSpec} (mono__law_same : MonoF S__law_same) (G__law_same : FnOk P w K mg base CX0 k T.f__law_same T.d__law_same P__law_same (spD K false S__law_same))
  {S__law_is_integer : FSpec} (mono__law_is_integer : MonoF S__law_is_integer) (G__law_is_integer : FnOk P w K mg base CX0 k T.f__law_is_integer T.d__law_is_integer P__law_is_integer (spD K false S__law_is_integer))
  {S__law_ends : FSpec} (mono__law_ends : MonoF S__law_ends) (G__law_ends : FnOk P w K mg base CX0 k T.f__law_ends T.d__law_ends P__law_ends (spD K false S__law_ends))
  {S__law_rows : FSpec} (mono__law_rows : MonoF S__law_rows) (G__law_rows : FnOk P w K mg base CX0 k T.f__law_rows T.d__law_rows P__law_rows (spD K false S__law_rows))
  {S__law_with : FSpec} (mono__law_with : MonoF S__law_with) (G__law_with : FnOk P w K mg base CX0 k T.f__law_with T.d__law_with P__law_with (spD K false S__law_with))
  (cdv : Value) (A : Around) (outer : List Env) (s : Shared) (H : Hp) (E : XK) (hr : Room k (A.deeper (envOfC "_law_is_right" (defScope s__law_is_right) s.heap.objs.size T.f__law_is_right cdv))) :
  DSs (cxOf CX0 P w K mg base N__law_is_right "_law_is_right" (defScope s__law_is_right) T.f__law_is_right cdv A outer s H E).nox (defBody s__law_is_right) (t__law_is_right S_ends_of S_longest_row S_slacks_of S__law_draw S__law_same S__law_is_integer S__law_ends S__law_rows S__law_with) := by
  have hu := hu64 hr
  have hu1 := hu1_ hr
  have h : ∃ t, DSs (cxOf CX0 P w K mg base N__law_is_right "_law_is_right" (defScope s__law_is_right) T.f__law_is_right cdv A outer s H E).nox (defBody s__law_is_right) t ∧ t = t__law_is_right S_ends_of S_longest_row S_slacks_of S__law_draw S__law_same S__law_is_integer S__law_ends S__law_rows S__law_with := by
    refine ⟨_, (dss_cons (ds_set (i := 3) sc__law_is_right.nd rfl (DE.x (de_call G__law_ends mono__law_ends hr (by rfl) T.g__law_ends T.F__law_ends.kp T.b__law_ends pass0 (dv_cons (de_var 1) (dv_cons (de_var 2) dv_nil)))) (by first | exact .inl rfl | exact .inr rfl))
  (dss_cons (ds_par2 (i := 4) (j := 5) rfl sc__law_is_right.nd rfl rfl (dm_cons (DE.x (de_callB (call_maxP rfl hu) (by rfl) T.m_max bt_max (dls_cons (dl_var 3) dls_nil))) (dm_cons (DF.x (df_lst da_nil)) dm_nil)))
  (dss_cons (ds_for PassesOwn.never rfl (di_seq (de_call G__law_rows mono__law_rows hr (by rfl) T.g__law_rows T.F__law_rows.kp T.b__law_rows pass0 (dv_cons (de_var 1) dv_nil))) (dg_name (i := 6) sc__law_is_right.nd rfl (by first | exact .inl rfl | exact .inr rfl) (by first | exact .inl rfl | exact .inr rfl)) (dss_cons (ds_if (DW.dt (dw_and (dt_cmp (op_eqP hu) (DE.dl (de_ix hu (dl_var 3) (DE.dl (de_ix hu (dl_var 6) (DE.dl (de_neg de_int)))))) (dl_var 4)) (dw_and1 (dt_cmp (op_eqP hu) (DE.dl (de_callB (call_sumP rfl) (by rfl) T.m_sum bt_sum (dls_cons (DE.dl (DF.de (df_lc rfl sc__law_is_right.nd (di_seqL (dl_var 6)) (blkOk_by (own := [("one", 7)]) (N := N__law_is_right) (sc := defScope s__law_is_right) (by decide +kernel)) (fun _ _ _ _ _ => (dg_name (i := 7) sc__law_is_right.nd rfl (by first | exact .inl rfl | exact .inr rfl) (by first | exact .inl rfl | exact .inr rfl))) (fun _ _ _ _ _ => dts_nil) (fun _ _ _ _ _ => (de_ix hu (dl_var 2) (dl_var 7))) (by decide)))) dls_nil))) (dl_var 4))))) (dss_cons (ds_expr (de_append (pv 5) (de_var 6)))
  dss_nil) dss_nil)
  dss_nil))
  (dss_cons (ds_if (dt_not (dt_val (de_call G__law_same mono__law_same hr (by rfl) T.g__law_same T.F__law_same.kp T.b__law_same pass0 (dv_cons (DF.de (df_lst (da_cons (de_call G_ends_of mono_ends_of hr (by rfl) T.g_ends_of T.F_ends_of.kp T.b_ends_of pass0 (dv_cons (de_var 1) (dv_cons (de_var 2) dv_nil))) (da_cons (de_call G_longest_row mono_longest_row hr (by rfl) T.g_longest_row T.F_longest_row.kp T.b_longest_row pass0 (dv_cons (de_var 1) (dv_cons (de_var 2) dv_nil))) da_nil)))) (dv_cons (DF.de (df_lst (da_cons (de_var 3) (da_cons (de_tup (da_cons (de_var 4) (da_cons (de_callB (call_minP rfl hu) (by rfl) T.m_min bt_min (dls_cons (dl_var 5) dls_nil)) da_nil))) da_nil)))) dv_nil))))) (dss_cons (ds_ret (DE.x de_bl))
  dss_nil) dss_nil)
  (dss_cons (ds_set (i := 8) sc__law_is_right.nd rfl (DE.x (de_call G_slacks_of mono_slacks_of hr (by rfl) T.g_slacks_of T.F_slacks_of.kp T.b_slacks_of pass0 (dv_cons (de_var 1) (dv_cons (de_var 2) dv_nil)))) (by first | exact .inl rfl | exact .inr rfl))
  (dss_cons (ds_if (DW.dt (dw_or (dt_not (dt_val (de_isa isa_tuple (dl_var 8) (by rfl) T.m_isinstance bt_isinstance (by rfl) T.m_tuple bt_tuple))) (dw_or (dt_cmp (op_neP hu) (DE.dl (de_callB call_lenP (by rfl) T.m_len bt_len (dls_cons (dl_var 8) dls_nil))) (DE.dl (de_callB call_lenP (by rfl) T.m_len bt_len (dls_cons (dl_var 1) dls_nil)))) (dw_or1 (dt_not (dt_val (de_callB (call_allP rfl) (by rfl) T.m_all bt_all (dls_cons (DE.dl (DF.de (df_lc rfl sc__law_is_right.nd (di_seqL (dl_var 8)) (blkOk_by (own := [("one", 7)]) (N := N__law_is_right) (sc := defScope s__law_is_right) (by decide +kernel)) (fun _ _ _ _ _ => (dg_name (i := 7) sc__law_is_right.nd rfl (by first | exact .inl rfl | exact .inr rfl) (by first | exact .inl rfl | exact .inr rfl))) (fun _ _ _ _ _ => dts_nil) (fun _ _ _ _ _ => (de_and (de_call G__law_is_integer mono__law_is_integer hr (by rfl) T.g__law_is_integer T.F__law_is_integer.kp T.b__law_is_integer pass0 (dv_cons (de_var 7) dv_nil)) (de_one (de_cmp (op_geP hu) (dl_var 7) (DE.dl de_int))))) (by decide)))) dls_nil)))))))) (dss_cons (ds_ret (DE.x de_bl))
  dss_nil) dss_nil)
  (dss_cons (ds_for PassesOwn.never rfl (di_enum (by rfl) T.m_enumerate (da_cons (de_var 8) da_nil)) (dg_tup (n := 2) rfl (dgs_cons (dg_name (i := 9) sc__law_is_right.nd rfl (by first | exact .inl rfl | exact .inr rfl) (by first | exact .inl rfl | exact .inr rfl)) (dgs_cons (dg_name (i := 10) sc__law_is_right.nd rfl (by first | exact .inl rfl | exact .inr rfl) (by first | exact .inl rfl | exact .inr rfl)) dgs_nil))) (dss_cons (ds_if (DW.dt (dw_or (dt_cmp (op_neP hu) (DE.dl (de_callB (call_maxP rfl hu) (by rfl) T.m_max bt_max (dls_cons (DE.dl (de_call G__law_ends mono__law_ends hr (by rfl) T.g__law_ends T.F__law_ends.kp T.b__law_ends pass0 (dv_cons (de_var 1) (dv_cons (de_call G__law_with mono__law_with hr (by rfl) T.g__law_with T.F__law_with.kp T.b__law_with pass0 (dv_cons (de_var 2) (dv_cons (de_var 9) (dv_cons (de_var 10) dv_nil)))) dv_nil)))) dls_nil))) (dl_var 4)) (dw_or1 (dt_cmp (op_leP hu) (DE.dl (de_callB (call_maxP rfl hu) (by rfl) T.m_max bt_max (dls_cons (DE.dl (de_call G__law_ends mono__law_ends hr (by rfl) T.g__law_ends T.F__law_ends.kp T.b__law_ends pass0 (dv_cons (de_var 1) (dv_cons (de_call G__law_with mono__law_with hr (by rfl) T.g__law_with T.F__law_with.kp T.b__law_with pass0 (dv_cons (de_var 2) (dv_cons (de_var 9) (dv_cons (de_op op_addD (dl_var 10) (DE.dl de_int)) dv_nil)))) dv_nil)))) dls_nil))) (dl_var 4))))) (dss_cons (ds_ret (DE.x de_bl))
  dss_nil) dss_nil)
  dss_nil))
  (dss_cons (ds_for PassesOwn.never rfl (di_seq (de_slice (dl_var 5) do_none (do_some de_int))) (dg_name (i := 6) sc__law_is_right.nd rfl (by first | exact .inl rfl | exact .inr rfl) (by first | exact .inl rfl | exact .inr rfl)) (dss_cons (ds_if (dt_val (de_callB (call_anyP rfl) (by rfl) T.m_any bt_any (dls_cons (DE.dl (DF.de (df_lc rfl sc__law_is_right.nd (di_seqL (dl_var 6)) (blkOk_by (own := [("one", 7)]) (N := N__law_is_right) (sc := defScope s__law_is_right) (by decide +kernel)) (fun _ _ _ _ _ => (dg_name (i := 7) sc__law_is_right.nd rfl (by first | exact .inl rfl | exact .inr rfl) (by first | exact .inl rfl | exact .inr rfl))) (fun _ _ _ _ _ => dts_nil) (fun _ _ _ _ _ => (de_cmp (op_neP hu) (DE.dl (de_ix hu (dl_var 8) (dl_var 7))) (DE.dl de_int))) (by decide)))) dls_nil))) (dss_cons (ds_ret (DE.x de_bl))
  dss_nil) dss_nil)
  dss_nil))
  (dss_cons (ds_set (i := 9) sc__law_is_right.nd rfl (DE.x (de_call G__law_draw mono__law_draw hr (by rfl) T.g__law_draw T.F__law_draw.kp T.b__law_draw pass0 (dv_hand (pv 0) (dv_cons (de_callB call_lenP (by rfl) T.m_len bt_len (dls_cons (dl_var 1) dls_nil)) dv_nil)))) (by first | exact .inl rfl | exact .inr rfl))
  (dss_cons (ds_set (i := 11) sc__law_is_right.nd rfl (DE.x (de_call G_ends_of mono_ends_of hr (by rfl) T.g_ends_of T.F_ends_of.kp T.b_ends_of pass0 (dv_cons (de_var 1) (dv_cons (de_call G__law_with mono__law_with hr (by rfl) T.g__law_with T.F__law_with.kp T.b__law_with pass0 (dv_cons (de_var 2) (dv_cons (de_var 9) (dv_cons (de_callTy call_intP (by rfl) T.m_int bt_int (dls_cons (DE.dl (de_cmp (op_ltP hu) (DE.dl (de_ix hu (dl_var 2) (dl_var 9))) (DE.dl de_int))) dls_nil)) dv_nil)))) dv_nil)))) (by first | exact .inl rfl | exact .inr rfl))
  (dss_cons (ds_ret (DE.x (de_callB (call_allP rfl) (by rfl) T.m_all bt_all (dls_cons (DE.dl (DF.de (df_lc rfl sc__law_is_right.nd (DI.lo (di_zip (by rfl) T.m_zip (da_cons (de_var 3) (da_cons (de_var 11) da_nil)))) (blkOk_by (own := [("one", 7), ("other", 12)]) (N := N__law_is_right) (sc := defScope s__law_is_right) (by decide +kernel)) (fun _ _ _ _ _ => (dg_tup (n := 2) rfl (dgs_cons (dg_name (i := 7) sc__law_is_right.nd rfl (by first | exact .inl rfl | exact .inr rfl) (by first | exact .inl rfl | exact .inr rfl)) (dgs_cons (dg_name (i := 12) sc__law_is_right.nd rfl (by first | exact .inl rfl | exact .inr rfl) (by first | exact .inl rfl | exact .inr rfl)) dgs_nil)))) (fun _ _ _ _ _ => dts_nil) (fun _ _ _ _ _ => (de_cmp (op_leP hu) (dl_var 7) (dl_var 12))) (by decide)))) dls_nil))))
  dss_nil))))))))))), ?_⟩
    rfl
  obtain ⟨t, h1, h2⟩ := h
  rw [← h2]
  exact h1
end Lw
end
section
set_option Elab.async false
set_option linter.all false
set_option maxRecDepth 100000
set_option maxHeartbeats 4000000
open PySem PySem.Spec PyProof.Rows L2 PD
namespace Lw
def stD (st : List (List Nat)) : PyData := .tuple (st.map nT)

def S_is_integer : FSpec := fun avs hd Q E => ∃ i : Int, avs = [.d (.int i)] ∧ Q (.bool true) hd
theorem rd_is_integer (avs hd Q E) (h : S_is_integer avs hd Q E) : t_is_integer (fnEnds false Q) ⟨initG ["thing"] avs, hd⟩ := by
  obtain ⟨i, rfl, q⟩ := h
  simpa [t_is_integer] using q
def S_is_within : FSpec := fun avs hd Q E => ∃ i lo hi : Int, avs = [.d (.int i), .d (.int lo), .d (.int hi)] ∧ Q (.bool (decide (lo ≤ i ∧ i ≤ hi))) hd
theorem rd_is_within (avs hd Q E) (h : S_is_within avs hd Q E) : t_is_within S_is_integer (fnEnds false Q) ⟨initG ["thing", "low", "high"] avs, hd⟩ := by
  obtain ⟨i, lo, hi, rfl, q⟩ := h
  simp [t_is_within, S_is_integer]
  by_cases h1 : lo ≤ i
  · exact .inr ⟨h1, by simpa [h1] using q⟩
  · exact .inl ⟨by omega, by simpa [h1] using q⟩
def S_is_sized : FSpec := fun avs hd Q E => ∃ (ds : List PyData) (lo hi : Int), avs = [.d (.tuple ds), .d (.int lo), .d (.int hi)] ∧ PyData.plainAll ds = true ∧ Q (.bool (decide (lo ≤ (ds.length : Int) ∧ (ds.length : Int) ≤ hi))) hd
theorem rd_is_sized (avs hd Q E) (h : S_is_sized avs hd Q E) : t_is_sized (fnEnds false Q) ⟨initG ["thing", "low", "high"] avs, hd⟩ := by
  obtain ⟨ds, lo, hi, rfl, hp, q⟩ := h
  simp [t_is_sized, hp]
  by_cases h1 : lo ≤ (ds.length : Int)
  · exact .inr ⟨h1, by simpa [h1] using q⟩
  · exact .inl ⟨by omega, by simpa [h1] using q⟩
def rising (l : List Nat) : Prop := l.Pairwise (· < ·)
theorem cut_tail (ds : List PyData) : PD.cutD ds (some 1) none = ds.tail := by
  unfold PD.cutD
  rw [HT.sIx_none, show (some (1 : Int)) = some ((1 : Nat) : Int) from rfl, HT.sIx_nat]
  cases ds with
  | nil => rfl
  | cons x l =>
    have e : min 1 (x :: l).length = 1 := by simp
    rw [e]
    simp
theorem zip_nD (l m : List Nat) : zipD (l.map nD) (m.map nD) = (l.zip m).map fun p => .tuple [nD p.1, nD p.2] := by
  unfold zipD
  rw [List.zip_map]
  simp
theorem rising_zip : ∀ {l : List Nat}, rising l → (l.zip l.tail).all (fun p => decide ((p.1 : Int) < p.2)) = true
  | [], _ => rfl
  | [x], _ => rfl
  | x :: y :: l, h => by
    have h1 := List.pairwise_cons.mp h
    have h2 := rising_zip (l := y :: l) h1.2
    have h3 := h1.1 y List.mem_cons_self
    show ((x, y) :: (y :: l).zip l).all _ = true
    rw [List.all_cons]
    simp only [Bool.and_eq_true, decide_eq_true_eq]
    exact ⟨by show (x : Int) < y; omega, h2⟩
def S_are_rising : FSpec := fun avs hd Q E => ∃ l : List Nat, avs = [.d (nT l)] ∧ rising l ∧ l.length ≤ 1000 ∧ Q (.bool true) hd
theorem rd_are_rising (avs hd Q E) (h : S_are_rising avs hd Q E) : t_are_rising (fnEnds false Q) ⟨initG ["things", "one", "other"] avs, hd⟩ := by
  obtain ⟨l, rfl, hr, hl, q⟩ := h
  have e : slD (.tuple (l.map nD)) (some 1) none = some (.tuple (l.tail.map nD)) := by
    show some (PyData.tuple (PD.cutD _ _ _)) = _
    rw [cut_tail, List.map_tail]
  simp only [t_are_rising]
  simp [nT, e]
  refine ⟨_, _, ⟨rfl, rfl⟩, ?_⟩
  rw [← List.map_tail, zip_nD]
  refine ⟨by simp [sizeLine]; omega, cRun_of _ (fun p => .bool (decide ((p.1 : Int) < p.2))) _ (fun p hp Y y => by simpa [nD, and_assoc] using y) _ _ ?_⟩
  simp only [List.nil_append, allD_map, rising_zip hr]
  exact ⟨_, rfl, q⟩
def S_is_lot : FSpec := fun avs hd Q E => ∃ (l : List Nat) (n : Nat), avs = [.d (nT l), .d (.int (n : Int))] ∧ rising l ∧ l.length ≤ 1000 ∧ (∀ x ∈ l, x < n) ∧ Q (.bool true) hd
theorem rd_is_lot (avs hd Q E) (h : S_is_lot avs hd Q E) : t_is_lot S_is_within S_are_rising (fnEnds false Q) ⟨initG ["thing", "many", "one"] avs, hd⟩ := by
  obtain ⟨l, n, rfl, hr, hl, hx, q⟩ := h
  simp only [t_is_lot]
  simp [nT, and_assoc]
  refine ⟨by simp [sizeLine]; omega, cRun_of _ (fun x => .bool (decide (x < n))) _ (fun x hx' Y y => ?_) _ _ ?_⟩
  · have := hx x hx'
    simp [S_is_within, nD, and_assoc]
    simpa [show (x : Int) ≤ (n : Int) - 1 by omega, this] using y
  · simp only [List.nil_append, allD_map]
    refine ⟨_, rfl, ?_⟩
    rw [show l.all (fun x => decide (x < n)) = true from List.all_eq_true.mpr fun x h => by simpa using hx x h]
    simp [S_are_rising]
    exact ⟨l, rfl, hr, hl, q⟩
/-- right stages -/
structure Ok (st : List (List Nat)) : Prop where
  n1 : 1 ≤ st.length
  n2 : st.length ≤ 10
  rise : ∀ l ∈ st, rising l
  lt : ∀ l ∈ st, ∀ x ∈ l, x < st.length
  rank : ∃ r : Nat → Nat, ∀ (i : Nat) (l : List Nat), st[i]? = some l → ∀ x ∈ l, r x < r i
theorem rising_nodup {l : List Nat} (h : rising l) : l.Nodup := h.imp fun h => Nat.ne_of_lt h
theorem rising_len {l : List Nat} {n : Nat} (h : rising l) (hx : ∀ x ∈ l, x < n) : l.length ≤ n := by
  have s : l ⊆ List.range n := fun x h => List.mem_range.mpr (hx x h)
  have := (rising_nodup h).length_le_of_subset s
  simpa using this
theorem Ok.len {st : List (List Nat)} (o : Ok st) {l : List Nat} (h : l ∈ st) : l.length ≤ 1000 := by
  have := rising_len (o.rise l h) (o.lt l h)
  have := o.n2
  omega
theorem plainAll_st (st : List (List Nat)) : PyData.plainAll (st.map nT) = true := plainAll_of fun d h => by
  obtain ⟨l, _, rfl⟩ := List.mem_map.mp h
  simp [nT]
theorem enum_map {α : Type} (f : α → PyData) (l : List α) : enumD (l.map f) = l.zipIdx.map fun p => .tuple [nD p.2, f p.1] := by
  unfold enumD
  apply List.ext_getElem
  · simp
  · intro i h1 h2
    simp [nD]
def S_are_stages : FSpec := fun avs hd Q E => ∃ st, avs = [.d (stD st)] ∧ Ok st ∧ Q (.bool true) hd
theorem rd_are_stages (avs hd Q E) (h : S_are_stages avs hd Q E) : t_are_stages S_is_sized S_is_lot (fnEnds false Q) ⟨initG ["thing", "lot", "number"] avs, hd⟩ := by
  obtain ⟨st, rfl, o, q⟩ := h
  have h1 := o.n1
  have h2 := o.n2
  simp only [t_are_stages]
  simp [stD, S_is_sized, and_assoc]
  refine ⟨plainAll_st st, ?_⟩
  rw [if_pos ⟨by omega, by omega⟩]
  refine ⟨by simp [sizeLine]; omega, cRun_of _ (fun x => .bool true) _ (fun l hl Y y => ?_) _ _ ?_⟩
  · simp [S_is_lot, and_assoc]
    exact ⟨l, rfl, st.length, rfl, o.rise l hl, o.len hl, o.lt l hl, y⟩
  · refine ⟨_, (allD_map (fun _ => true) st), ?_⟩
    simp
    rw [enum_map]
    refine ⟨by simp [sizeLine]; omega, cRun_of _ (fun p => .bool (decide (p.2 ∈ p.1))) _ (fun p hp Y y => ?_) _ _ ?_⟩
    · simpa [nT, and_assoc] using y
    · simp only [List.nil_append, anyD_map]
      refine ⟨_, rfl, ?_⟩
      have e : st.zipIdx.any (fun p => decide (p.2 ∈ p.1)) = false := by
        rw [List.any_eq_false]
        intro p hp
        obtain ⟨r, hr⟩ := o.rank
        have := List.mk_mem_zipIdx_iff_getElem?.mp (show (p.1, p.2) ∈ st.zipIdx from hp)
        simp only [decide_eq_true_eq]
        intro z
        exact Nat.lt_irrefl _ (hr p.2 p.1 this p.2 z)
      rw [e]
      simpa using q
def S_check_stages : FSpec := fun avs hd Q E => ∃ st, avs = [.d (stD st)] ∧ Ok st ∧ Q .none hd
theorem rd_check_stages (avs hd Q E) (h : S_check_stages avs hd Q E) : t_check_stages S_are_stages (fnEnds false Q) ⟨initG ["stages"] avs, hd⟩ := by
  obtain ⟨st, rfl, o, q⟩ := h
  simp [t_check_stages, S_are_stages]
  exact ⟨st, rfl, o, q⟩

/-! ### the order -/
def nds (st : List (List Nat)) (i : Nat) : List Nat := st.getD i []
def ready (st : List (List Nat)) (o : List Nat) (i : Nat) : Bool := !decide (i ∈ o) && (nds st i).all fun x => decide (x ∈ o)
def free (st : List (List Nat)) (o : List Nat) : List Nat := (List.range st.length).filter (ready st o)
def ordN (st : List (List Nat)) : Nat → List Nat
  | 0 => []
  | k + 1 => ordN st k ++ (free st (ordN st k)).take 1
def ord (st : List (List Nat)) : List Nat := ordN st st.length
theorem least_rank (r : Nat → Nat) (p : Nat → Bool) : ∀ (l : List Nat), (∃ x ∈ l, p x = true) → ∃ x ∈ l, p x = true ∧ ∀ y ∈ l, p y = true → r x ≤ r y
  | [], ⟨x, h, _⟩ => nomatch h
  | a :: l, h => by
    by_cases hl : ∃ x ∈ l, p x = true
    · obtain ⟨x, h1, h2, h3⟩ := least_rank r p l hl
      by_cases ha : p a = true ∧ r a < r x
      · exact ⟨a, List.mem_cons_self, ha.1, fun y hy py => by
          rcases List.mem_cons.mp hy with z | z
          · rw [z]; exact Nat.le_refl _
          · exact Nat.le_of_lt (Nat.lt_of_lt_of_le ha.2 (h3 y z py))⟩
      · exact ⟨x, List.mem_cons_of_mem _ h1, h2, fun y hy py => by
          rcases List.mem_cons.mp hy with z | z
          · subst z
            by_cases q : r y < r x
            · exact absurd ⟨py, q⟩ ha
            · omega
          · exact h3 y z py⟩
    · obtain ⟨x, hx, px⟩ := h
      rcases List.mem_cons.mp hx with z | z
      · subst z
        exact ⟨x, List.mem_cons_self, px, fun y hy py => by
          rcases List.mem_cons.mp hy with z | z
          · rw [z]; exact Nat.le_refl _
          · exact absurd ⟨y, z, py⟩ hl⟩
      · exact absurd ⟨x, z, px⟩ hl
/-- what is made so far -/
structure OrdOk (st : List (List Nat)) (k : Nat) : Prop where
  len : (ordN st k).length = k
  nd : (ordN st k).Nodup
  lt : ∀ x ∈ ordN st k, x < st.length
theorem full_of {o : List Nat} {n : Nat} (nd : o.Nodup) (lt : ∀ x ∈ o, x < n) (len : n ≤ o.length) : ∀ i, i < n → i ∈ o := by
  intro i hi
  by_cases h : i ∈ o
  · exact h
  · have s : (i :: o) ⊆ List.range n := fun x hx => List.mem_range.mpr (by
      rcases List.mem_cons.mp hx with z | z
      · rw [z]; exact hi
      · exact lt x z)
    have := (List.nodup_cons.mpr ⟨h, nd⟩).length_le_of_subset s
    simp at this
    omega
theorem Ok.free_ne {st : List (List Nat)} (v : Ok st) {o : List Nat} (h : ∃ i, i < st.length ∧ i ∉ o) : free st o ≠ [] := by
  obtain ⟨r, hr⟩ := v.rank
  obtain ⟨i, hi, hn⟩ := h
  obtain ⟨x, h1, h2, h3⟩ := least_rank r (fun x => !decide (x ∈ o)) (List.range st.length) ⟨i, List.mem_range.mpr hi, by simpa using hn⟩
  have hx := List.mem_range.mp h1
  have m : x ∈ free st o := List.mem_filter.mpr ⟨h1, by
    unfold ready
    rw [Bool.and_eq_true]
    refine ⟨h2, List.all_eq_true.mpr fun y hy => ?_⟩
    have e : st[x]? = some st[x] := List.getElem?_eq_getElem hx
    have hy : y ∈ st[x] := by simpa [nds, List.getD, e] using hy
    have ry := hr x _ e y hy
    by_cases z : y ∈ o
    · simpa using z
    · have ly := v.lt _ (List.getElem_mem hx) y hy
      have := h3 y (List.mem_range.mpr ly) (by simpa using z)
      omega⟩
  intro z
  rw [z] at m
  cases m
theorem free_mem {st : List (List Nat)} {o : List Nat} {x : Nat} (h : x ∈ free st o) : x < st.length ∧ x ∉ o ∧ ∀ y ∈ nds st x, y ∈ o := by
  obtain ⟨h1, h2⟩ := List.mem_filter.mp h
  unfold ready at h2
  rw [Bool.and_eq_true] at h2
  exact ⟨List.mem_range.mp h1, by simpa using h2.1, fun y hy => by simpa using List.all_eq_true.mp h2.2 y hy⟩
theorem Ok.ord {st : List (List Nat)} (v : Ok st) : ∀ k, k ≤ st.length → OrdOk st k
  | 0, _ => ⟨rfl, List.nodup_nil, fun x h => nomatch h⟩
  | k + 1, hk => by
    have ih := Ok.ord v k (by omega)
    have ne : free st (ordN st k) ≠ [] := v.free_ne (by
      by_cases h : ∃ i, i < st.length ∧ i ∉ ordN st k
      · exact h
      · have s : List.range st.length ⊆ ordN st k := fun x hx => by
          by_cases z : x ∈ ordN st k
          · exact z
          · exact absurd ⟨x, List.mem_range.mp hx, z⟩ h
        have := List.nodup_range.length_le_of_subset s
        rw [List.length_range, ih.len] at this
        omega)
    cases e : free st (ordN st k) with
    | nil => exact absurd e ne
    | cons a l =>
      have ha := free_mem (st := st) (o := ordN st k) (x := a) (by rw [e]; exact List.mem_cons_self)
      have eq : ordN st (k + 1) = ordN st k ++ [a] := by
        show ordN st k ++ (free st (ordN st k)).take 1 = _
        rw [e]; rfl
      refine ⟨by rw [eq, List.length_append, ih.len]; rfl, ?_, fun x hx => ?_⟩
      · rw [eq]
        exact List.nodup_append.mpr ⟨ih.nd, by simp, fun x hx y hy z => ha.2.1 (by
          rw [List.mem_singleton.mp hy] at z
          rw [← z]; exact hx)⟩
      · rw [eq] at hx
        rcases List.mem_append.mp hx with z | z
        · exact ih.lt x z
        · rw [List.mem_singleton.mp z]; exact ha.1
end Lw
end
section
set_option Elab.async false
set_option linter.all false
set_option maxRecDepth 100000
set_option maxHeartbeats 4000000
open PySem PySem.Spec PyProof.Rows L2 PD
namespace Lw
theorem ix_st {st : List (List Nat)} {a : Nat} (h : a < st.length) : ixD (.tuple (st.map nT)) (nD a) = some (nT (nds st a)) := by
  show ixD _ (.int (a : Int)) = _
  rw [ixD_tuple (by simpa using h)]
  simp [nds, List.getD, h]
theorem rng_nat (n : Nat) : rngD 0 n = (List.range n).map nD := rngD_nat n
def S_least_order : FSpec := fun avs hd Q E => ∃ st, avs = [.d (stD st)] ∧ Ok st ∧ Q (nT (ord st)) hd
def left (n : Nat) (s : PSt) : Nat := match s.G[1]? with
  | some (Sl.m (.list l)) => n - l.length
  | _ => 0
theorem rd_least_order (avs hd Q E) (h : S_least_order avs hd Q E) : t_least_order (fnEnds false Q) ⟨initG ["stages", "order", "ready", "one", "need"] avs, hd⟩ := by
  obtain ⟨st, rfl, o, q⟩ := h
  have h1 := o.n1
  have h2 := o.n2
  simp only [t_least_order]
  simp [stD]
  refine tWh_inv (fun s => ∃ k S2, k ≤ st.length ∧ s = ⟨[.v (.tuple (st.map nT)), .m (.list ((ordN st k).map nD)), S2, .no, .no], hd⟩) (left st.length) ⟨0, _, Nat.zero_le _, rfl⟩ ?_
  rintro s N ⟨k, S2, hk, rfl⟩ hN
  have ok := o.ord k hk
  simp [ok.len]
  by_cases hlt : k < st.length
  · refine .inr ⟨hlt, by omega, ?_⟩
    rw [rng_nat]
    refine ⟨by simp [sizeLine]; omega, cRun_if _ (ready st (ordN st k)) nD _ (fun a ha Y M y n => ?_) _ _ ?_⟩
    · have ha := List.mem_range.mp ha
      simp
      by_cases hm : a ∈ ordN st k
      · simp [hm]
        exact n (by simp [ready, hm])
      · simp [hm, ix_st ha, nT]
        have hl : (nds st a).length ≤ 1000 := by
          rw [nds, List.getD_eq_getElem?_getD, List.getElem?_eq_getElem ha]
          exact o.len (List.getElem_mem ha)
        refine ⟨by simp [sizeLine] at hl ⊢; omega, cRun_of _ (fun x => .bool (decide (x ∈ ordN st k))) _ (fun x hx Y y => ?_) _ _ ?_⟩
        · simpa using y
        · simp only [List.nil_append, allD_map]
          refine ⟨_, rfl, ?_⟩
          have y : ((nds st a).all fun x => decide (x ∈ ordN st k)) = true → Y (nD a) hd := fun e => y (by simp only [ready, hm, e]; rfl)
          have n : ((nds st a).all fun x => decide (x ∈ ordN st k)) = false → M hd := fun e => n (by simp only [ready, hm, e]; rfl)
          generalize ((nds st a).all fun x => decide (x ∈ ordN st k)) = b at y n ⊢
          cases b with
          | true => simpa using y rfl
          | false => simpa using n rfl
    · have eqs : (List.range st.length).filter (ready st (ordN st k)) = free st (ordN st k) := rfl
      rw [eqs]
      have ne : free st (ordN st k) ≠ [] := o.free_ne (by
        by_cases h : ∃ i, i < st.length ∧ i ∉ ordN st k
        · exact h
        · have s : List.range st.length ⊆ ordN st k := fun x hx => by
            by_cases z : x ∈ ordN st k
            · exact z
            · exact absurd ⟨x, List.mem_range.mp hx, z⟩ h
          have := List.nodup_range.length_le_of_subset s
          rw [List.length_range, ok.len] at this
          omega)
      cases e : free st (ordN st k) with
      | nil => exact absurd e ne
      | cons a l =>
        refine .inl ⟨by simp, nD a, by have := ixD_list (l := nD a :: l.map nD) (k := 0) (by simp); simpa using this, by simp [sizeLine]; omega, ?_⟩
        have eo : ordN st (k + 1) = ordN st k ++ [a] := by
          show ordN st k ++ (free st (ordN st k)).take 1 = _
          rw [e]; rfl
        refine hN _ ⟨k + 1, .m (.list ((a :: l).map nD)), hlt, ?_⟩ ?_
        · rw [eo, List.map_append]; rfl
        · simp [left, ok.len]; omega
  · have e : k = st.length := by omega
    subst e
    exact .inl ⟨Nat.le_refl _, q⟩
end Lw
end
section
set_option Elab.async false
set_option linter.all false
set_option maxRecDepth 100000
set_option maxHeartbeats 4000000
open PySem PySem.Spec PyProof.Rows L2 PD
namespace Lw
theorem alike_nD (m n : Nat) : PySem.W.alike (nD m) (nD n) = true := by simp [nD, PySem.W.alike]
theorem okMin_nD {l : List Nat} (h : l ≠ []) : okMin (l.map nD) = true := by
  cases l with
  | nil => exact absurd rfl h
  | cons x l =>
    have h1 : PyData.plainAll ((x :: l).map nD) = true := plainAll_nD _
    have h2 : PyData.depthAll ((x :: l).map nD) = 0 := depthAll_nD _
    have h3 : ((x :: l).map nD).all (fun a => ((x :: l).map nD).all fun b => PySem.W.alike a b) = true := List.all_eq_true.mpr fun a ha => List.all_eq_true.mpr fun b hb => by
      obtain ⟨m, _, rfl⟩ := List.mem_map.mp ha
      obtain ⟨n, _, rfl⟩ := List.mem_map.mp hb
      exact alike_nD m n
    have h4 : ((x :: l).map nD).all (fun a => !(isNone a)) = true := List.all_eq_true.mpr fun a ha => by
      obtain ⟨m, _, rfl⟩ := List.mem_map.mp ha
      rfl
    show (PyData.plainAll ((x :: l).map nD) && ((x :: l).map nD).all (fun a => ((x :: l).map nD).all fun b => PySem.W.alike a b) && ((x :: l).map nD).all (fun a => !(isNone a)) && decide (PyData.depthAll ((x :: l).map nD) ≤ 60)) = true
    rw [h1, h2, h3, h4]
    rfl
def mx (x : Nat) (l : List Nat) : Nat := l.foldl max x
theorem maxD_nD : ∀ (l : List Nat) (x : Nat), PySem.W.maxD (nD x) (l.map nD) = nD (mx x l) := fun l => by
  unfold PySem.W.maxD mx
  induction l with
  | nil => exact fun _ => rfl
  | cons y l ih =>
    intro x
    rw [List.map_cons, List.foldl_cons, List.foldl_cons]
    have e : (if PySem.W.dataLt (nD x) (nD y) = true then nD y else nD x) = nD (max x y) := by
      simp only [nD, PySem.W.dataLt_int, decide_eq_true_eq]
      by_cases h : x < y
      · rw [if_pos (by omega), Nat.max_eq_right (by omega)]
      · rw [if_neg (by omega), Nat.max_eq_left (by omega)]
    rw [e]
    exact ih _
theorem maxOf_nD (x : Nat) (l : List Nat) : maxOfD [.list (nD x :: l.map nD)] = some (nD (mx x l)) := by
  have := okMin_nD (l := x :: l) (by simp)
  unfold maxOfD
  rw [List.map_cons] at this
  simp only [this, if_true, maxD_nD]
def at0 (l : List Nat) (i : Nat) : Nat := l.getD i 0
theorem add_nD (m n : Nat) : addD (nD m) (nD n) = some (nD (m + n)) := by simp [nD]
theorem ix_nT {l : List Nat} {a : Nat} (h : a < l.length) : ixD (.tuple (l.map nD)) (nD a) = some (nD (at0 l a)) := by
  show ixD _ (.int (a : Int)) = _
  rw [ixD_tuple (by simpa using h)]
  simp [at0, List.getD, h]
theorem ix_nL {l : List Nat} {a : Nat} (h : a < l.length) : ixD (.list (l.map nD)) (nD a) = some (nD (at0 l a)) := by
  show ixD _ (.int (a : Int)) = _
  rw [ixD_list (by simpa using h)]
  simp [at0, List.getD, h]
def endStep (st : List (List Nat)) (ts e : List Nat) (i : Nat) : List Nat := e.set i (at0 ts i + mx 0 ((nds st i).map (at0 e)))
def endsOn (st : List (List Nat)) (ts o : List Nat) : List Nat := o.foldl (endStep st ts) (List.replicate st.length 0)
theorem endStep_len (st : List (List Nat)) (ts e : List Nat) (i : Nat) : (endStep st ts e i).length = e.length := by simp [endStep]
theorem endsOn_len (st : List (List Nat)) (ts o : List Nat) : (endsOn st ts o).length = st.length := by
  have go : ∀ (o e : List Nat), (o.foldl (endStep st ts) e).length = e.length := fun o => by
    induction o with
    | nil => exact fun _ => rfl
    | cons x o ih => intro e; rw [List.foldl_cons, ih, endStep_len]
  rw [endsOn, go, List.length_replicate]
theorem Ok.nds_len {st : List (List Nat)} (v : Ok st) (a : Nat) : (nds st a).length ≤ 1000 := by
  unfold nds
  rw [List.getD_eq_getElem?_getD]
  by_cases h : a < st.length
  · rw [List.getElem?_eq_getElem h]; exact v.len (List.getElem_mem h)
  · rw [List.getElem?_eq_none (by omega)]; simp
theorem Ok.nds_lt {st : List (List Nat)} (v : Ok st) {a x : Nat} (h : x ∈ nds st a) : x < st.length := by
  unfold nds at h
  rw [List.getD_eq_getElem?_getD] at h
  by_cases h2 : a < st.length
  · rw [List.getElem?_eq_getElem h2] at h; exact v.lt _ (List.getElem_mem h2) x h
  · rw [List.getElem?_eq_none (by omega)] at h; simp at h
def S_raw_ends : FSpec := fun avs hd Q E => ∃ st ts o, avs = [.d (stD st), .d (nT ts), .d (nT o)] ∧ Ok st ∧ ts.length = st.length ∧ (∀ x ∈ o, x < st.length) ∧ Q (nL (endsOn st ts o)) hd
theorem rd_raw_ends (avs hd Q E) (h : S_raw_ends avs hd Q E) : t_raw_ends (fnEnds false Q) ⟨initG ["stages", "times", "order", "ends", "number", "need"] avs, hd⟩ := by
  obtain ⟨st, ts, o, rfl, v, ht, ho, q⟩ := h
  have h2 := v.n2
  simp only [t_raw_ends]
  simp [stD, nT]
  refine ⟨by simp [sizeLine], .list ((List.replicate st.length 0).map nD), ?_, ?_⟩
  · simp only [repL, repD]
    rw [if_pos ⟨by omega, by omega, by simp [sizeLine]; omega⟩]
    simp [nD]
  · refine fRun_inv (fun i s => ∃ S4, s = ⟨[.v (.tuple (st.map nT)), .v (.tuple (ts.map nD)), .v (.tuple (o.map nD)), .m (.list ((endsOn st ts (o.take i)).map nD)), S4, .no], hd⟩) ?_ ?_ ⟨.no, by simp [endsOn]⟩
    · rintro i d s N hd' ⟨S4, rfl⟩ hN
      have hi : i < o.length := by simpa using (List.getElem?_eq_some_iff.mp hd').1
      have ed : d = nD o[i] := by
        rw [List.getElem?_map, List.getElem?_eq_getElem hi] at hd'
        exact (Option.some.inj hd').symm
      subst ed
      have ha := ho o[i] (List.getElem_mem hi)
      have et : endsOn st ts (o.take (i + 1)) = endStep st ts (endsOn st ts (o.take i)) o[i] := by
        unfold endsOn
        rw [List.take_succ_eq_append_getElem hi, List.foldl_append]
        rfl
      generalize o[i] = a at ha et ⊢
      have el : (endsOn st ts (o.take i)).length = st.length := endsOn_len _ _ _
      generalize endsOn st ts (o.take i) = e at et el ⊢
      simp [ix_nT (l := ts) (a := a) (by omega), ix_st ha, nT]
      have hn := v.nds_len a
      refine ⟨by simp [sizeLine], by simp [sizeLine]; omega, cRun_of _ (fun x => nD (at0 e x)) _ (fun x hx Y y => ?_) _ _ ?_⟩
      · have := v.nds_lt hx
        simp [ix_nL (l := e) (a := x) (by omega)]
        exact y
      · have m1 : (nds st a).map (fun x => nD (at0 e x)) = ((nds st a).map (at0 e)).map nD := by simp
        rw [List.nil_append, m1]
        have m2 : addD (.list [.int 0]) (.list (((nds st a).map (at0 e)).map nD)) = some (.list (nD 0 :: ((nds st a).map (at0 e)).map nD)) := by
          show (if _ then _ else _) = _
          rw [if_pos (by simp [sizeLine]; omega)]
          rfl
        refine ⟨_, m2, _, maxOf_nD _ _, ?_⟩
        refine ⟨_, add_nD _ _, _, rfl, a, ixN_nat (by omega), hN _ ⟨.v (nD a), ?_⟩⟩
        rw [et, endStep, List.map_set]
    · rintro s ⟨S4, rfl⟩
      simpa [tRtV, nL] using q
def S_check_ringless : FSpec := fun avs hd Q E => ∃ st, avs = [.d (stD st)] ∧ Ok st ∧ Q (nT (ord st)) hd
theorem rd_check_ringless (avs hd Q E) (h : S_check_ringless avs hd Q E) : t_check_ringless S_check_stages S_least_order (fnEnds false Q) ⟨initG ["stages", "order"] avs, hd⟩ := by
  obtain ⟨st, rfl, v, q⟩ := h
  simp [t_check_ringless, S_check_stages, S_least_order]
  exact ⟨st, rfl, v, st, rfl, v, by simpa [nT] using q⟩
def S_check_times : FSpec := fun avs hd Q E => ∃ st ts, avs = [.d (stD st), .d (nT ts)] ∧ Ok st ∧ ts.length = st.length ∧ (∀ x ∈ ts, x ≤ 100) ∧ Q (nT (ord st)) hd
theorem rd_check_times (avs hd Q E) (h : S_check_times avs hd Q E) : t_check_times S_is_within S_is_sized S_check_ringless (fnEnds false Q) ⟨initG ["stages", "times", "order", "one"] avs, hd⟩ := by
  obtain ⟨st, ts, rfl, v, ht, hx, q⟩ := h
  have h2 := v.n2
  simp [t_check_times, S_check_ringless, S_is_sized]
  refine ⟨st, rfl, v, ?_⟩
  simp [nT, stD, ht, and_assoc]
  refine ⟨by simp [sizeLine]; omega, cRun_of _ (fun x => .bool (decide (x ≤ 100))) _ (fun x hx' Y y => ?_) _ _ ?_⟩
  · have := hx x hx'
    simp [S_is_within, nD, and_assoc]
    simpa [show (x : Int) ≤ 100 by omega, this] using y
  · simp only [List.nil_append, allD_map]
    refine ⟨_, rfl, ?_⟩
    rw [show ts.all (fun x => decide (x ≤ 100)) = true from List.all_eq_true.mpr fun x h => by simpa using hx x h]
    simpa [nT] using q
theorem ord_all {st : List (List Nat)} (v : Ok st) : (ord st).Nodup ∧ (∀ x ∈ ord st, x < st.length) ∧ (ord st).length = st.length ∧ ∀ i, i < st.length → i ∈ ord st := by
  have k := v.ord st.length (Nat.le_refl _)
  exact ⟨k.nd, k.lt, k.len, full_of k.nd k.lt (Nat.le_of_eq k.len.symm)⟩
def ends (st : List (List Nat)) (ts : List Nat) : List Nat := endsOn st ts (ord st)
def S_ends_of : FSpec := fun avs hd Q E => ∃ st ts, avs = [.d (stD st), .d (nT ts)] ∧ Ok st ∧ ts.length = st.length ∧ (∀ x ∈ ts, x ≤ 100) ∧ Q (nT (ends st ts)) hd
theorem rd_ends_of (avs hd Q E) (h : S_ends_of avs hd Q E) : t_ends_of S_check_times S_raw_ends (fnEnds false Q) ⟨initG ["stages", "times", "order"] avs, hd⟩ := by
  obtain ⟨st, ts, rfl, v, ht, hx, q⟩ := h
  simp [t_ends_of, S_check_times, S_raw_ends, and_assoc]
  exact ⟨st, rfl, ts, rfl, v, ht, hx, st, rfl, ts, rfl, ord st, rfl, v, ht, (ord_all v).2.1, by simpa [nL, nT, ends] using q⟩
end Lw
end
section
set_option Elab.async false
set_option linter.all false
set_option maxRecDepth 100000
set_option maxHeartbeats 4000000
open PySem PySem.Spec PyProof.Rows L2 PD
namespace Lw
/-! ### the draws -/
@[simp] theorem at5_0 (a b c d e : PyData) : atI [a, b, c, d, e] 0 = some a := rfl
@[simp] theorem at5_1 (a b c d e : PyData) : atI [a, b, c, d, e] 1 = some b := rfl
@[simp] theorem at5_2 (a b c d e : PyData) : atI [a, b, c, d, e] 2 = some c := rfl
@[simp] theorem at5_3 (a b c d e : PyData) : atI [a, b, c, d, e] 3 = some d := rfl
@[simp] theorem at5_4 (a b c d e : PyData) : atI [a, b, c, d, e] 4 = some e := rfl
@[simp] theorem ix5_1 : ixN 5 1 = some 1 := rfl
@[simp] theorem ix5_2 : ixN 5 2 = some 2 := rfl
@[simp] theorem ix5_3 : ixN 5 3 = some 3 := rfl
@[simp] theorem ix5_4 : ixN 5 4 = some 4 := rfl
theorem mul_ok {i j : Int} (h1 : -(2 ^ 64) < j) (h2 : j < 2 ^ 64) : mulD (.int i) (.int j) = some (.int (i * j)) := by
  have : CMul i j := by unfold CMul; omega
  simp [mulD, this]
theorem mul_okL {i j : Int} (h1 : -(2 ^ 64) < i) (h2 : i < 2 ^ 64) : mulD (.int i) (.int j) = some (.int (i * j)) := by
  have : CMul i j := by unfold CMul; omega
  simp [mulD, this]
theorem mul_mod {a m j : Int} (h1 : 0 < m) (h2 : m ≤ 2 ^ 62) : mulD (.int (a % m)) (.int j) = some (.int (a % m * j)) := by
  have h3 := Int.emod_nonneg a (show m ≠ 0 by omega)
  have h4 := Int.emod_lt_of_pos a h1
  exact mul_okL (by omega) (by omega)
theorem mod_ok {i j : Int} (h : 0 < j) : modD (.int i) (.int j) = some (.int (i % j)) := by simp [modD, h]
theorem div_ok {i j : Int} (h : 0 < j) (h2 : j < 1073741824) : divD (.int i) (.int j) = some (.int (i / j)) := by simp [divD, h, h2]
theorem pow_ok : powD (.int 10) (.int 18) = some (.int 1000000000000000000) := rfl
theorem sq_of {t u : PTS} {E : PEnds} {s : PSt} (I : PSt → Prop) (hu : ∀ s', I s' → u E s') (ht : ∀ N : PSt → Prop, (∀ s', I s' → N s') → t { E with nx := N } s) : tSq t u E s := ht _ hu
def S__law_draw : FSpec := fun avs hd Q E => ∃ n : Nat, avs = [.hand, .d (.int (n : Int))] ∧ 0 < n ∧ n ≤ 1000 ∧ HandD hd ∧ ∀ v hd', v < n → HandD hd' → Q (nD v) hd'
theorem rd__law_draw (avs hd Q E) (h : S__law_draw avs hd Q E) : t__law_draw (fnEnds false Q) ⟨initG ["hand", "many", "cell", "digit", "number"] avs, hd⟩ := by
  obtain ⟨n, rfl, n0, n1, ⟨cells, i, c, s, k, rfl, hc, c0, s0, k0⟩, q⟩ := h
  simp only [t__law_draw]
  refine sq_of (fun s' => ∃ hd' S2, s' = ⟨[.h, .v (.int (n : Int)), S2, .no, .no], hd'⟩ ∧ HandD hd') ?_ fun N hN => ?_
  · rintro s' ⟨hd', S2, rfl, ⟨cells, i, c, s, k, rfl, hc, c0, s0, k0⟩⟩
    refine sq_of (fun s' => ∃ S2 S3 c, 0 ≤ c ∧ s' = ⟨[.h, .v (.int (n : Int)), S2, S3, .no], [.list (cells.map .int), .int i, .int c, .int s, .int k]⟩) ?_ fun N hN => ?_
    · rintro s' ⟨S2, S3, c, c0, rfl⟩
      simp
      refine ⟨_, mul_okL (by decide) (by decide), _, rfl, _, rfl, _, mul_ok (by decide) (by decide), _, rfl, _, mod_ok (by decide), _, div_ok (by decide) (by decide), _, rfl, _, mul_mod (by decide) (by decide), _, rfl, _, mod_ok (by decide), _, div_ok (by decide) (by decide), _, rfl, _, mul_mod (by decide) (by decide), _, rfl, _, mod_ok (by decide), _, div_ok (by decide) (by decide), _, rfl, _, mod_ok (by omega), ?_⟩
      generalize hz : (_ : Int) / 16 = z
      have h1 := Int.emod_nonneg z (show (n : Int) ≠ 0 by omega)
      have h2 := Int.emod_lt_of_pos z (show (0 : Int) < n by omega)
      have e : PyData.int (z % (n : Int)) = nD (z % (n : Int)).toNat := by unfold nD; congr 1; omega
      rw [e]
      exact q _ _ (by omega) ⟨cells, i, c, s, k + 1, rfl, hc, c0, s0, by omega⟩
    · simp
      by_cases h : 0 < c
      · refine .inr ⟨h, _, mod_ok (by omega), _, div_ok (by omega) (by omega), ?_⟩
        have h1 := Int.emod_nonneg c (show (n : Int) ≠ 0 by omega)
        have h2 := Int.emod_lt_of_pos c (show (0 : Int) < n by omega)
        have e : PyData.int (c % (n : Int)) = nD (c % (n : Int)).toNat := by unfold nD; congr 1; omega
        rw [e]
        exact q _ _ (by omega) ⟨cells, i, _, s, k, rfl, hc, Int.ediv_nonneg c0 (by omega), s0, k0⟩
      · exact .inl ⟨by omega, hN _ ⟨S2, .no, c, c0, rfl⟩⟩
  · simp [pow_ok, and_assoc]
    by_cases h : c = 0
    · refine .inr ⟨h, ?_⟩
      by_cases hi : i < cells.length
      · have ex : ixD (.list (cells.map .int)) (.int (i : Int)) = some (.int cells[i]) := by
          rw [ixD_list (by simpa using hi)]; simp
        have x0 := hc _ (List.getElem_mem hi)
        refine .inr ⟨hi, _, ex, _, mul_ok (by decide) (by decide), _, mul_ok (by decide) (by decide), _, rfl, _, rfl, _, rfl, _, mod_ok (by decide), _, geD_int _ _, ?_⟩
        have m0 := Int.emod_nonneg (s * 69621 + cells[i] * 48271 + 17) (show (2147483629 : Int) ≠ 0 by decide)
        by_cases hg : (1000000000000000000 : Int) ≤ cells[i]
        · exact .inr ⟨by simp [hg], hN _ ⟨_, _, rfl, cells, i + 1, cells[i], _, k, rfl, hc, x0, m0, k0⟩⟩
        · exact .inl ⟨by simp [hg], hN _ ⟨_, _, rfl, cells, i + 1, c, _, k, rfl, hc, c0, m0, k0⟩⟩
      · exact .inl ⟨by omega, hN _ ⟨_, _, rfl, cells, i, c, s, k, rfl, hc, c0, s0, k0⟩⟩
    · exact .inl ⟨h, hN _ ⟨_, _, rfl, cells, i, c, s, k, rfl, hc, c0, s0, k0⟩⟩
end Lw
end
section
set_option Elab.async false
set_option linter.all false
set_option maxRecDepth 100000
set_option maxHeartbeats 4000000
open PySem PySem.Spec PyProof.Rows L2 PD
namespace Lw
theorem rng_natE (n : Nat) : rngD 0 n = (List.range n).map nD := rngD_nat n
def S__law_any : FSpec := fun avs hd Q E => ∃ ds : List PyData, avs = [.hand, .d (.list ds)] ∧ 0 < ds.length ∧ ds.length ≤ 1000 ∧ HandD hd ∧ ∀ d ∈ ds, ∀ hd', HandD hd' → Q d hd'
theorem rd__law_any (avs hd Q E) (h : S__law_any avs hd Q E) : t__law_any S__law_draw (fnEnds false Q) ⟨initG ["hand", "some"] avs, hd⟩ := by
  obtain ⟨ds, rfl, h0, h1, hh, q⟩ := h
  simp only [t__law_any]
  simp [S__law_draw, and_assoc]
  refine ⟨ds.length, rfl, h0, h1, hh, fun v hd' hv hh' => ⟨ds[v], ?_, q _ (List.getElem_mem hv) hd' hh'⟩⟩
  show ixD _ (.int (v : Int)) = _
  rw [ixD_list hv]
def S__law_mixed : FSpec := fun avs hd Q E => ∃ ds : List PyData, avs = [.hand, .d (.list ds)] ∧ ds.length ≤ 1000 ∧ HandD hd ∧ ∀ out hd', out.Perm ds → HandD hd' → Q (.list out) hd'
theorem erase_perm {α : Type} {l : List α} {i : Nat} (h : i < l.length) : (l[i] :: l.eraseIdx i).Perm l := by
  have e : l = l.take i ++ l[i] :: l.drop (i + 1) := by
    rw [← List.drop_eq_getElem_cons h, List.take_append_drop]
  rw [List.eraseIdx_eq_take_drop_succ]
  refine (List.perm_middle.symm).trans ?_
  rw [← e]
def poolLen (s : PSt) : Nat := match s.G[2]? with
  | some (Sl.m (.list l)) => l.length
  | _ => 0
theorem rd__law_mixed (avs hd Q E) (h : S__law_mixed avs hd Q E) : t__law_mixed S__law_draw (fnEnds false Q) ⟨initG ["hand", "things", "pool", "found"] avs, hd⟩ := by
  obtain ⟨ds, rfl, h1, hh, q⟩ := h
  simp only [t__law_mixed]
  simp [listD, and_assoc]
  refine tWh_inv (fun s => ∃ pool found hd', s = ⟨[.h, .v (.list ds), .m (.list pool), .m (.list found)], hd'⟩ ∧ (found ++ pool).Perm ds ∧ HandD hd') poolLen ⟨ds, [], hd, rfl, List.Perm.refl _, hh⟩ ?_
  rintro s N ⟨pool, found, hd', rfl, hp, hh'⟩ hN
  have hl : found.length + pool.length ≤ 1000 := by
    have := hp.length_eq
    rw [List.length_append] at this
    omega
  simp [S__law_draw, and_assoc]
  by_cases h0 : 0 < pool.length
  · refine .inr ⟨h0, ?_⟩
    refine ⟨pool.length, rfl, h0, by omega, hh', fun v hd2 hv hh2 => ⟨v, rfl, by omega, pool[v], List.getElem?_eq_getElem hv, by simp [sizeLine]; omega, hN _ ⟨pool.eraseIdx v, found ++ [pool[v]], hd2, rfl, ?_, hh2⟩ ?_⟩⟩
    · rw [List.append_assoc]
      exact ((erase_perm hv).append_left found).trans hp
    · simp [poolLen, List.length_eraseIdx_of_lt hv]
      omega
  · have e : pool = [] := List.length_eq_zero_iff.mp (by omega)
    subst e
    refine .inl ⟨by simp, ?_⟩
    simpa [tRtV] using q _ _ (by simpa using hp) hh'
def S__law_is_integer : FSpec := fun avs hd Q E => ∃ i : Int, avs = [.d (.int i)] ∧ Q (.bool true) hd
theorem rd__law_is_integer (avs hd Q E) (h : S__law_is_integer avs hd Q E) : t__law_is_integer (fnEnds false Q) ⟨initG ["thing"] avs, hd⟩ := by
  obtain ⟨i, rfl, q⟩ := h
  simpa [t__law_is_integer] using q
def S__law_times : FSpec := fun avs hd Q E => ∃ n : Nat, avs = [.hand, .d (.int (n : Int))] ∧ n ≤ 1000 ∧ HandD hd ∧ ∀ ts hd', ts.length = n → (∀ x ∈ ts, x ≤ 100) → HandD hd' → Q (nT ts) hd'
theorem rd__law_times (avs hd Q E) (h : S__law_times avs hd Q E) : t__law_times S__law_draw S__law_any (fnEnds false Q) ⟨initG ["hand", "many", "wide", "one"] avs, hd⟩ := by
  obtain ⟨n, rfl, h1, hh, q⟩ := h
  simp only [t__law_times]
  simp [S__law_any, and_assoc]
  have key : ∀ w : Nat, 0 < w → w ≤ 101 → ∀ hd', HandD hd' → (n : Int) < 4611686018427387904 ∧ (rngD 0 n).length ≤ sizeLine ∧ cRun (gN 3) tYs (tFn S__law_draw (tCnH 0 (tCnV (tVr 2) tNlV))) [3] [Sl.h, Sl.v (PyData.int (n : Int)), Sl.v (PyData.int (w : Int)), Sl.no] (rngD 0 n) [] hd' fun out hd => Q (PyData.tuple out) hd := fun w w0 w1 hd' hh' => ?_
  · exact ⟨by simp [sizeLine], hh, key 2 (by omega) (by omega), key 3 (by omega) (by omega), key 6 (by omega) (by omega), key 101 (by omega) (by omega)⟩
  refine ⟨by omega, ?_⟩
  rw [rng_natE]
  refine ⟨by simp [sizeLine]; omega, cRun_inv (fun i out hd => ∃ ts : List Nat, out = ts.map nD ∧ ts.length = i ∧ (∀ x ∈ ts, x ≤ 100) ∧ HandD hd) (fun i d out hd Y M hi ⟨ts, eo, el, ex, hh⟩ y m => ?_) (fun out hd ⟨ts, eo, el, ex, hh⟩ => ?_) ⟨[], rfl, rfl, (fun x h => nomatch h), hh'⟩⟩
  · simp [S__law_draw]
    refine ⟨w, rfl, w0, by omega, hh, fun v hd2 hv hh2 => y _ _ ⟨ts ++ [v], by rw [eo]; simp, by simp [el], fun x hx => ?_, hh2⟩⟩
    rcases List.mem_append.mp hx with z | z
    · exact ex x z
    · rw [List.mem_singleton.mp z]; omega
  · subst eo
    simp at el
    exact q ts hd el ex hh
end Lw
end
section
set_option Elab.async false
set_option linter.all false
set_option maxRecDepth 100000
set_option maxHeartbeats 4000000
open PySem PySem.Spec PyProof.Rows L2 PD
namespace Lw
theorem cut_first (ds : List PyData) : PD.cutD ds none (some 1) = ds.take 1 := by
  unfold PD.cutD
  rw [HT.sIx_none, show (some (1 : Int)) = some ((1 : Nat) : Int) from rfl, HT.sIx_nat, List.drop_zero]
  cases ds with
  | nil => rfl
  | cons x l => simp
def S__law_order : FSpec := fun avs hd Q E => ∃ st, avs = [.d (stD st)] ∧ Ok st ∧ Q (nT (ord st)) hd
def left2 (n : Nat) (s : PSt) : Nat := match s.G[1]?, s.G[2]? with
  | some (Sl.v (.list l)), some (Sl.v (.bool b)) => 2 * (n - l.length) + (if b = true then 1 else 0)
  | _, _ => 0
theorem Ok.free_lt {st : List (List Nat)} (o : Ok st) {k : Nat} (hk : k < st.length) : free st (ordN st k) ≠ [] := o.free_ne (by
  by_cases h : ∃ i, i < st.length ∧ i ∉ ordN st k
  · exact h
  · have s : List.range st.length ⊆ ordN st k := fun x hx => by
      by_cases z : x ∈ ordN st k
      · exact z
      · exact absurd ⟨x, List.mem_range.mp hx, z⟩ h
    have := List.nodup_range.length_le_of_subset s
    rw [List.length_range, (o.ord k (by omega)).len] at this
    omega)
theorem free_full {st : List (List Nat)} (o : Ok st) : free st (ordN st st.length) = [] := by
  cases e : free st (ordN st st.length) with
  | nil => rfl
  | cons a l =>
    have := free_mem (st := st) (o := ordN st st.length) (x := a) (by rw [e]; exact List.mem_cons_self)
    exact absurd ((ord_all o).2.2.2 a this.1) this.2.1
theorem rd__law_order (avs hd Q E) (h : S__law_order avs hd Q E) : t__law_order (fnEnds false Q) ⟨initG ["some", "found", "is_more", "free_ones", "one", "other"] avs, hd⟩ := by
  obtain ⟨st, rfl, o, q⟩ := h
  have h1 := o.n1
  have h2 := o.n2
  simp only [t__law_order]
  simp [stD]
  refine tWh_inv (fun s => ∃ k b S3, k ≤ st.length ∧ (b = false → k = st.length) ∧ s = ⟨[.v (.tuple (st.map nT)), .v (.list ((ordN st k).map nD)), .v (.bool b), S3, .no, .no], hd⟩) (left2 st.length) ⟨0, true, _, Nat.zero_le _, (fun z => nomatch z), rfl⟩ ?_
  rintro s N ⟨k, b, S3, hk, hb, rfl⟩ hN
  have ok := o.ord k hk
  cases b with
  | false =>
    have e := hb rfl
    subst e
    simp
    exact q
  | true =>
    simp
    refine ⟨by omega, ?_⟩
    rw [rng_nat]
    refine ⟨by simp [sizeLine]; omega, cRun_if _ (fun a => (nds st a).all fun x => decide (x ∈ ordN st k)) nD _ (fun a ha Y M y n => ?_) _ _ ?_⟩
    · have ha := List.mem_range.mp ha
      simp [ix_st ha, nT]
      have hl := o.nds_len a
      refine ⟨by simp [sizeLine]; omega, cRun_of _ (fun x => .bool (decide (x ∈ ordN st k))) _ (fun x hx Y y => by simpa using y) _ _ ?_⟩
      simp only [List.nil_append, allD_map]
      refine ⟨_, rfl, ?_⟩
      generalize ((nds st a).all fun x => decide (x ∈ ordN st k)) = b at y n ⊢
      cases b with
      | true => simpa using y rfl
      | false => simpa using n rfl
    · simp
      refine ⟨Nat.le_trans (List.length_filter_le _ _) (by simp [sizeLine]; omega), cRun_if _ (fun a => !decide (a ∈ ordN st k)) nD _ (fun a ha Y M y n => ?_) _ _ ?_⟩
      · by_cases hm : a ∈ ordN st k
        · simp [hm] at y n ⊢
          exact n
        · simp [hm] at y n ⊢
          exact y
      · have ef : ((List.range st.length).filter fun a => (nds st a).all fun x => decide (x ∈ ordN st k)).filter (fun a => !decide (a ∈ ordN st k)) = free st (ordN st k) := by
          rw [List.filter_filter]
          rfl
        rw [ef, List.nil_append]
        have e1 : slD (.list ((free st (ordN st k)).map nD)) none (some 1) = some (.list (((free st (ordN st k)).take 1).map nD)) := by
          show some (PyData.list (PD.cutD _ _ _)) = _
          rw [cut_first, List.map_take]
        have lt1 : ((free st (ordN st k)).take 1).length ≤ 1 := by simp; omega
        have e2 : addD (.list ((ordN st k).map nD)) (.list (((free st (ordN st k)).take 1).map nD)) = some (.list ((ordN st (k + 1)).map nD)) := by
          show (if _ then _ else _) = _
          rw [if_pos (by rw [List.length_map, List.length_map, ok.len]; simp only [sizeLine]; omega), ← List.map_append]
          rfl
        refine ⟨_, e1, _, e2, ?_⟩
        by_cases hlt : k < st.length
        · have ne := o.free_lt hlt
          have l0 : 0 < ((free st (ordN st k)).map nD).length := by rw [List.length_map]; exact List.length_pos_iff.mpr ne
          have ok2 := o.ord (k + 1) hlt
          refine hN _ ⟨k + 1, true, _, hlt, (fun z => nomatch z), by rw [decide_eq_true l0]⟩ ?_
          simp only [left2, List.getElem?_cons_succ, List.getElem?_cons_zero, List.length_map, ok.len, ok2.len]
          rw [List.length_map] at l0
          simp only [if_true]
          split <;> omega
        · have e : k = st.length := by omega
          subst e
          have f0 := free_full o
          have e3 : ordN st (st.length + 1) = ordN st st.length := by
            show ordN st st.length ++ (free st (ordN st st.length)).take 1 = _
            rw [f0]; simp
          rw [f0, e3]
          refine hN _ ⟨st.length, false, _, Nat.le_refl _, (fun _ => rfl), rfl⟩ ?_
          simp [left2]
def S__law_ends : FSpec := fun avs hd Q E => ∃ st ts, avs = [.d (stD st), .d (nT ts)] ∧ Ok st ∧ ts.length = st.length ∧ Q (nT (ends st ts)) hd
theorem rd__law_ends (avs hd Q E) (h : S__law_ends avs hd Q E) : t__law_ends S__law_order (fnEnds false Q) ⟨initG ["some", "times", "found", "one", "other"] avs, hd⟩ := by
  obtain ⟨st, ts, rfl, v, ht, q⟩ := h
  have h2 := v.n2
  obtain ⟨o1, ho, o3, o4⟩ := ord_all v
  have eo : ends st ts = endsOn st ts (ord st) := rfl
  rw [eo] at q
  simp only [t__law_ends]
  simp [stD, nT, S__law_order, and_assoc]
  refine ⟨by simp [sizeLine], .list ((List.replicate st.length 0).map nD), ?_, st, rfl, v, ?_⟩
  · simp only [repL, repD]
    rw [if_pos ⟨by omega, by omega, by simp [sizeLine]; omega⟩]
    simp [nD]
  · generalize ord st = o at ho q ⊢
    refine fRun_inv (fun i s => ∃ S4, s = ⟨[.v (.tuple (st.map nT)), .v (.tuple (ts.map nD)), .m (.list ((endsOn st ts (o.take i)).map nD)), S4, .no], hd⟩) ?_ ?_ ⟨.no, by simp [endsOn]⟩
    · rintro i d s N hd' ⟨S4, rfl⟩ hN
      have hi : i < o.length := by simpa using (List.getElem?_eq_some_iff.mp hd').1
      have ed : d = nD o[i] := by
        rw [List.getElem?_map, List.getElem?_eq_getElem hi] at hd'
        exact (Option.some.inj hd').symm
      subst ed
      have ha := ho o[i] (List.getElem_mem hi)
      have et : endsOn st ts (o.take (i + 1)) = endStep st ts (endsOn st ts (o.take i)) o[i] := by
        unfold endsOn
        rw [List.take_succ_eq_append_getElem hi, List.foldl_append]
        rfl
      generalize o[i] = a at ha et ⊢
      have el : (endsOn st ts (o.take i)).length = st.length := endsOn_len _ _ _
      generalize endsOn st ts (o.take i) = e at et el ⊢
      simp [ix_nT (l := ts) (a := a) (by omega), ix_st ha, nT]
      have hn := v.nds_len a
      refine ⟨by simp [sizeLine], by simp [sizeLine]; omega, cRun_of _ (fun x => nD (at0 e x)) _ (fun x hx Y y => ?_) _ _ ?_⟩
      · have := v.nds_lt hx
        simp [ix_nL (l := e) (a := x) (by omega)]
        exact y
      · have m1 : (nds st a).map (fun x => nD (at0 e x)) = ((nds st a).map (at0 e)).map nD := by simp
        rw [List.nil_append, m1]
        have m2 : addD (.list [.int 0]) (.list (((nds st a).map (at0 e)).map nD)) = some (.list (nD 0 :: ((nds st a).map (at0 e)).map nD)) := by
          show (if _ then _ else _) = _
          rw [if_pos (by simp [sizeLine]; omega)]
          rfl
        refine ⟨_, m2, _, maxOf_nD _ _, _, add_nD _ _, _, rfl, a, ixN_nat (by omega), hN _ ⟨.v (nD a), ?_⟩⟩
        rw [et, endStep, List.map_set, Nat.add_comm]
    · rintro s ⟨S4, rfl⟩
      simpa [nT] using q
end Lw
end
section
set_option Elab.async false
set_option linter.all false
set_option maxRecDepth 100000
set_option maxHeartbeats 4000000
open PySem PySem.Spec PyProof.Rows L2 PD
namespace Lw
theorem cut_to (ds : List PyData) (k : Nat) : PD.cutD ds none (some (k : Int)) = ds.take k := by
  unfold PD.cutD
  rw [HT.sIx_none, HT.sIx_nat, List.drop_zero, Nat.sub_zero]
  by_cases h : k ≤ ds.length
  · rw [Nat.min_eq_left h]
  · rw [Nat.min_eq_right (by omega), List.take_of_length_le (Nat.le_refl _), List.take_of_length_le (by omega)]
def S__law_round_free : FSpec := fun avs hd Q E => ∃ n : Nat, avs = [.hand, .d (.int (n : Int))] ∧ 1 ≤ n ∧ n ≤ 10 ∧ HandD hd ∧ ∀ st hd', Ok st → HandD hd' → Q (stD st) hd'
/-- what is drawn so far -/
structure Half (o : List Nat) (st : List (List Nat)) : Prop where
  len : st.length = o.length
  ok : ∀ (j : Nat) (l : List Nat), st[j]? = some l → rising l ∧ ∀ x ∈ l, x ∈ o ∧ o.idxOf x < o.idxOf j
theorem rd__law_round_free (avs hd Q E) (h : S__law_round_free avs hd Q E) : t__law_round_free S__law_draw S__law_any S__law_mixed (fnEnds false Q) ⟨initG ["hand", "most", "many", "order", "found", "much", "at", "stage", "one"] avs, hd⟩ := by
  obtain ⟨n, rfl, n1, n2, hh, q⟩ := h
  simp only [t__law_round_free]
  simp [S__law_draw, and_assoc]
  refine ⟨n, rfl, by omega, by omega, hh, fun v hd1 hv hh1 => ?_⟩
  have e1 : addD (.int 1) (nD v) = some (nD (1 + v)) := by simp [nD]
  refine ⟨_, e1, ?_⟩
  generalize hm : 1 + v = m
  simp [S__law_mixed, nD, and_assoc]
  have rl : (rngD 0 m).length ≤ 1000 := by rw [rng_nat]; simp; omega
  refine ⟨by omega, rl, hh1, fun out hd2 hp hh2 => ?_⟩
  rw [rng_nat] at hp
  obtain ⟨o, rfl, po⟩ := of_perm hp
  have nd : o.Nodup := po.nodup_iff.mpr List.nodup_range
  have lt : ∀ x, x ∈ o ↔ x < m := fun x => po.mem_iff.trans List.mem_range
  have len : o.length = m := by rw [po.length_eq]; simp
  have ix : ∀ (i : Nat) (h : i < o.length), o.idxOf o[i] = i := fun i h => nd.idxOf_getElem i h
  have rp : repL (.list [.tuple []]) (.int (m : Int)) = some (.list ((List.replicate m []).map nT)) := by
    simp only [repL, repD]
    rw [if_pos ⟨by omega, by omega, by simp [sizeLine]; omega⟩]
    simp [nT]
  refine ⟨by simp [sizeLine], _, rp, by simp [sizeLine], [.int 2, .int 3, .int 4], rfl, by simp, by simp, hh2, fun d hd0 hd3 hh3 => ?_⟩
  obtain ⟨w, ed, w0, w1⟩ : ∃ w : Nat, d = .int (w : Int) ∧ 0 < w ∧ w ≤ 4 := by
    simp at hd0
    rcases hd0 with z | z | z
    · exact ⟨2, z, by omega, by omega⟩
    · exact ⟨3, z, by omega, by omega⟩
    · exact ⟨4, z, by omega, by omega⟩
  subst ed
  refine fRun_inv (fun i s => ∃ st hd S6 S7, s = ⟨[.h, .v (.int (n : Int)), .v (.int (m : Int)), .v (.list (o.map nD)), .m (.list (st.map nT)), .v (.int (w : Int)), S6, S7, .no], hd⟩ ∧ Half o st ∧ HandD hd) ?_ ?_ ⟨_, hd3, .no, .no, rfl, ⟨by simp [len], fun j l hj => ?_⟩, hh3⟩
  · rintro i d s N hd' ⟨st, hd4, S6, S7, rfl, hf, hh4⟩ hN
    have hi : i < o.length := by simpa [enumD] using (List.getElem?_eq_some_iff.mp hd').1
    have ed : d = .tuple [nD i, nD o[i]] := by
      unfold enumD at hd'
      rw [List.getElem?_mapIdx, List.getElem?_map, List.getElem?_eq_getElem hi] at hd'
      exact (Option.some.inj hd').symm
    subst ed
    have cut : slD (.list (o.map nD)) none (some (i : Int)) = some (.list ((o.take i).map nD)) := by
      show some (PyData.list (PD.cutD _ _ _)) = _
      rw [cut_to, List.map_take]
    have ha := (lt o[i]).mp (List.getElem_mem hi)
    have hix := ix i hi
    simp [nD, and_assoc, cut]
    refine ⟨by simp [sizeLine]; omega, cRun_inv (fun j out hd => ∃ l : List Nat, out = l.map nD ∧ l.Sublist ((o.take i).take j) ∧ HandD hd) (fun j d out hd Y M hj ⟨l, eo, sl, hh⟩ y nn => ?_) (fun out hd ⟨l, eo, sl, hh⟩ => ?_) ⟨[], rfl, List.nil_sublist _, hh4⟩⟩
    · have hj2 : j < (o.take i).length := by simpa using (List.getElem?_eq_some_iff.mp hj).1
      rw [← List.map_take, List.getElem?_map, List.getElem?_eq_getElem hj2] at hj
      have ed := (Option.some.inj hj).symm
      subst ed
      have tk : (o.take i).take (j + 1) = (o.take i).take j ++ [(o.take i)[j]] := List.take_succ_eq_append_getElem hj2
      generalize (o.take i)[j] = x at tk ⊢
      simp [S__law_draw, and_assoc]
      refine ⟨w, rfl, w0, by omega, hh, fun v hd5 hv hh5 => ?_⟩
      by_cases hz : v = 0
      · subst hz
        simp [nD]
        exact y _ _ ⟨l ++ [x], by rw [eo]; simp [nD], by rw [tk]; exact sl.append (List.Sublist.refl _), hh5⟩
      · simp [nD, hz]
        exact nn _ ⟨l, eo, by rw [tk]; exact sl.trans (List.sublist_append_left _ _), hh5⟩
    · subst eo
      rw [← List.map_take, List.length_map, List.take_length] at sl
      have ndl : l.Nodup := (nd.sublist (List.take_sublist _ _)).sublist sl
      obtain ⟨r, r1, r2, r3⟩ := sorted_rise ndl
      refine ⟨_, r1, ?_⟩
      refine ⟨o[i], ixN_nat (by rw [hf.len]; omega), hN _ ⟨st.set o[i] r, hd, _, _, by rw [List.map_set]; rfl, ⟨by rw [List.length_set]; exact hf.len, fun j l2 hj => ?_⟩, hh⟩⟩
      by_cases e : o[i] = j
      · subst e
        rw [List.getElem?_set_self (by rw [hf.len]; omega)] at hj
        cases hj
        refine ⟨r2, fun x hx => ?_⟩
        have hx2 := sl.subset ((r3 x).mp hx)
        obtain ⟨k, hk, ek⟩ := List.mem_iff_getElem.mp hx2
        have hk2 : k < i ∧ k < o.length := by simpa [Nat.lt_min] using hk
        have ek2 : o[k]'hk2.2 = x := by rw [← ek]; simp
        refine ⟨(List.mem_of_mem_take hx2), ?_⟩
        rw [hix, ← ek2, ix k hk2.2]
        exact hk2.1
      · rw [List.getElem?_set_ne e] at hj
        exact hf.ok j l2 hj
  · rintro s ⟨st, hd4, S6, S7, rfl, hf, hh4⟩
    simp
    refine q st hd4 ⟨by rw [hf.len]; omega, by rw [hf.len]; omega, fun l hl => ?_, fun l hl x hx => ?_, ⟨fun x => o.idxOf x, fun j l hj x hx => ((hf.ok j l hj).2 x hx).2⟩⟩ hh4
    · obtain ⟨j, hj, e⟩ := List.mem_iff_getElem.mp hl
      exact (hf.ok j l (by rw [List.getElem?_eq_getElem hj, e])).1
    · obtain ⟨j, hj, e⟩ := List.mem_iff_getElem.mp hl
      have := ((hf.ok j l (by rw [List.getElem?_eq_getElem hj, e])).2 x hx).1
      rw [hf.len, len]
      exact (lt x).mp this
  · rw [List.getElem?_replicate] at hj
    split at hj
    · cases hj
      exact ⟨List.Pairwise.nil, fun x h => nomatch h⟩
    · cases hj
end Lw
end
section
set_option Elab.async false
set_option linter.all false
set_option maxRecDepth 100000
set_option maxHeartbeats 4000000
open PySem PySem.Spec PyProof.Rows L2 PD
namespace Lw
theorem cut_from (ds : List PyData) (k : Nat) : PD.cutD ds (some (k : Int)) none = ds.drop k := by
  unfold PD.cutD
  rw [HT.sIx_none, HT.sIx_nat]
  by_cases h : k ≤ ds.length
  · rw [Nat.min_eq_left h, List.take_of_length_le (by simp)]
  · rw [Nat.min_eq_right (by omega), List.drop_of_length_le (Nat.le_refl _), List.drop_of_length_le (by omega)]
    simp
def S__law_with : FSpec := fun avs hd Q E => ∃ (ts : List Nat) (i m : Nat), avs = [.d (nT ts), .d (.int (i : Int)), .d (.int (m : Int))] ∧ i < ts.length ∧ ts.length ≤ 1000 ∧ Q (nT (ts.set i (at0 ts i + m))) hd
theorem rd__law_with (avs hd Q E) (h : S__law_with avs hd Q E) : t__law_with (fnEnds false Q) ⟨initG ["times", "at", "more"] avs, hd⟩ := by
  obtain ⟨ts, i, m, rfl, hi, hl, q⟩ := h
  simp only [t__law_with]
  simp [nT, and_assoc]
  have e1 : slD (.tuple (ts.map nD)) none (some (i : Int)) = some (.tuple ((ts.take i).map nD)) := by
    show some (PyData.tuple (PD.cutD _ _ _)) = _
    rw [cut_to, List.map_take]
  have e2 : slD (.tuple (ts.map nD)) (some ((i : Int) + 1)) none = some (.tuple ((ts.drop (i + 1)).map nD)) := by
    show some (PyData.tuple (PD.cutD _ _ _)) = _
    rw [show (i : Int) + 1 = ((i + 1 : Nat) : Int) by omega, cut_from, List.map_drop]
  have e3 : ixD (.tuple (ts.map nD)) (.int (i : Int)) = some (nD (at0 ts i)) := ix_nT hi
  have e4 : addD (nD (at0 ts i)) (.int (m : Int)) = some (nD (at0 ts i + m)) := by simp [nD]
  have e5 : addD (.tuple ((ts.take i).map nD)) (.tuple [nD (at0 ts i + m)]) = some (.tuple ((ts.take i ++ [at0 ts i + m]).map nD)) := by
    show (if _ then _ else _) = _
    rw [if_pos (by simp [sizeLine]; omega), List.map_append]; rfl
  have e6 : addD (.tuple ((ts.take i ++ [at0 ts i + m]).map nD)) (.tuple ((ts.drop (i + 1)).map nD)) = some (.tuple ((ts.take i ++ [at0 ts i + m] ++ ts.drop (i + 1)).map nD)) := by
    show (if _ then _ else _) = _
    rw [if_pos (by simp [sizeLine]; omega), ← List.map_append]
  have e7 : ts.take i ++ [at0 ts i + m] ++ ts.drop (i + 1) = ts.set i (at0 ts i + m) := by
    rw [List.set_eq_take_append_cons_drop, if_pos hi]
    simp
  rw [e7] at e6
  refine ⟨_, e1, _, e3, _, e4, by simp [sizeLine], _, e5, _, e2, _, e6, ?_⟩
  simpa [nT] using q
end Lw
end
section
set_option Elab.async false
set_option linter.all false
set_option maxRecDepth 100000
set_option maxHeartbeats 4000000
open PySem PySem.Spec PyProof.Rows L2 PD
namespace Lw
inductive OkS : Nat → PyData → Prop
  | int (n : Nat) (i : Int) : OkS n (.int i)
  | tup (n : Nat) (ds : List PyData) : ds.length ≤ 1000 → PyData.plainAll ds = true → (∀ d ∈ ds, OkS n d) → OkS (n + 1) (.tuple ds)
  | lst (n : Nat) (ds : List PyData) : ds.length ≤ 1000 → PyData.plainAll ds = true → (∀ d ∈ ds, OkS n d) → OkS (n + 1) (.list ds)
theorem zip_self (ds : List PyData) : zipD ds ds = ds.map fun d => .tuple [d, d] := by
  unfold zipD
  induction ds with
  | nil => rfl
  | cons d ds ih => rw [List.zip_cons_cons, List.map_cons, ih]; rfl
def S_same (n : Nat) : FSpec := fun avs hd Q E => ∃ d, avs = [.d d, .d d] ∧ OkS n d ∧ Q (.bool true) hd
theorem rd__law_same (S' : FSpec) (n : Nat) (hS : ∀ m d hd Q E, n = m + 1 → OkS m d → Q (.bool true) hd → S' [.d d, .d d] hd Q E) (avs hd Q E) (h : S_same n avs hd Q E) : t__law_same S' (fnEnds false Q) ⟨initG ["one", "due", "a", "b"] avs, hd⟩ := by
  obtain ⟨d, rfl, o, q⟩ := h
  simp only [t__law_same]
  cases o with
  | int n i => simpa [tRn] using q
  | tup m ds hl hp hd2 =>
    simp [hp, zip_self, and_assoc]
    refine ⟨by simp [sizeLine]; omega, cRun_of _ (fun _ => .bool true) _ (fun d h Y y => ?_) _ _ ?_⟩
    · simp [and_assoc]
      exact hS m d _ _ _ rfl (hd2 d h) y
    · simp only [List.nil_append, allD_map]
      exact ⟨_, rfl, by rw [show (ds.all fun _ => true) = true from List.all_eq_true.mpr fun _ _ => rfl]; exact q⟩
  | lst m ds hl hp hd2 =>
    simp [hp, zip_self, and_assoc]
    refine ⟨by simp [sizeLine]; omega, cRun_of _ (fun _ => .bool true) _ (fun d h Y y => ?_) _ _ ?_⟩
    · simp [and_assoc]
      exact hS m d _ _ _ rfl (hd2 d h) y
    · simp only [List.nil_append, allD_map]
      exact ⟨_, rfl, by rw [show (ds.all fun _ => true) = true from List.all_eq_true.mpr fun _ _ => rfl]; exact q⟩
end Lw
end
section
set_option Elab.async false
set_option linter.all false
set_option maxRecDepth 100000
set_option maxHeartbeats 4000000
open PySem PySem.Spec PyProof.Rows L2 PD
namespace Lw
theorem Ok.next {st : List (List Nat)} (v : Ok st) {k : Nat} (hk : k < st.length) : ∃ a, ordN st (k + 1) = ordN st k ++ [a] ∧ a ∈ free st (ordN st k) := by
  cases e : free st (ordN st k) with
  | nil => exact absurd e (v.free_lt hk)
  | cons a l =>
    refine ⟨a, ?_, List.mem_cons_self⟩
    show ordN st k ++ (free st (ordN st k)).take 1 = _
    rw [e]; rfl
theorem at0_set {l : List Nat} {a i x : Nat} (h : a ≠ i) : at0 (l.set a x) i = at0 l i := by
  simp [at0, List.getD_eq_getElem?_getD, List.getElem?_set_ne h]
theorem at0_self {l : List Nat} {a x : Nat} (h : a < l.length) : at0 (l.set a x) a = x := by
  simp [at0, List.getD_eq_getElem?_getD, h]
/-- the ends, by what is needed -/
theorem ends_eq {st : List (List Nat)} (v : Ok st) (ts : List Nat) : ∀ k, k ≤ st.length → ∀ i ∈ ordN st k, (∀ x ∈ nds st i, x ∈ ordN st k) ∧ at0 (endsOn st ts (ordN st k)) i = at0 ts i + mx 0 ((nds st i).map (at0 (endsOn st ts (ordN st k))))
  | 0, _, i, h => nomatch h
  | k + 1, hk, i, h => by
    obtain ⟨a, ea, fa⟩ := v.next (show k < st.length by omega)
    have ih := ends_eq v ts k (by omega)
    obtain ⟨f1, f2, f3⟩ := free_mem fa
    have es : endsOn st ts (ordN st (k + 1)) = endStep st ts (endsOn st ts (ordN st k)) a := by
      rw [ea, endsOn, List.foldl_append]; rfl
    have el := endsOn_len st ts (ordN st k)
    rw [es, ea]
    generalize endsOn st ts (ordN st k) = e at ih el ⊢
    have same : ∀ l : List Nat, (∀ x ∈ l, x ∈ ordN st k) → l.map (at0 (endStep st ts e a)) = l.map (at0 e) := fun l hl => List.map_congr_left fun x hx => at0_set fun z => f2 (by rw [z]; exact hl x hx)
    rw [ea] at h
    rcases List.mem_append.mp h with q | q
    · obtain ⟨h1, h2⟩ := ih i q
      refine ⟨fun x hx => List.mem_append_left _ (h1 x hx), ?_⟩
      rw [same _ h1, endStep, at0_set fun z => f2 (by rw [z]; exact q)]
      exact h2
    · have q := List.mem_singleton.mp q
      subst q
      refine ⟨fun x hx => List.mem_append_left _ (f3 x hx), ?_⟩
      rw [same _ f3, endStep, at0_self (by omega)]
def e_ (st : List (List Nat)) (ts : List Nat) (i : Nat) : Nat := at0 (ends st ts) i
theorem e_eq {st : List (List Nat)} (v : Ok st) (ts : List Nat) {i : Nat} (hi : i < st.length) : e_ st ts i = at0 ts i + mx 0 ((nds st i).map (e_ st ts)) :=
  (ends_eq v ts st.length (Nat.le_refl _) i ((ord_all v).2.2.2 i hi)).2
theorem mx_le (l : List Nat) : ∀ (a x : Nat), x ≤ a ∨ x ∈ l ∨ (∃ y ∈ l, x ≤ y) → x ≤ mx a l := by
  unfold mx
  induction l with
  | nil =>
    intro a x h
    rcases h with h | h | ⟨y, h, _⟩
    · exact h
    · cases h
    · cases h
  | cons y l ih =>
    intro a x h
    rw [List.foldl_cons]
    refine ih _ x ?_
    rcases h with h | h | ⟨z, h, h2⟩
    · exact .inl (by omega)
    · rcases List.mem_cons.mp h with q | q
      · exact .inl (by omega)
      · exact .inr (.inl q)
    · rcases List.mem_cons.mp h with q | q
      · exact .inl (by omega)
      · exact .inr (.inr ⟨z, q, h2⟩)
theorem mx_in (l : List Nat) : ∀ a : Nat, mx a l = a ∨ mx a l ∈ l := by
  unfold mx
  induction l with
  | nil => exact fun a => .inl rfl
  | cons y l ih =>
    intro a
    rw [List.foldl_cons]
    rcases ih (max a y) with h | h
    · by_cases q : a ≤ y
      · exact .inr (by rw [h, Nat.max_eq_right q]; exact List.mem_cons_self)
      · exact .inl (by rw [h, Nat.max_eq_left (by omega)])
    · exact .inr (List.mem_cons_of_mem _ h)
/-- rows: each needed by the next one -/
inductive Row (st : List (List Nat)) : List Nat → Nat → Prop
  | one {i : Nat} : i < st.length → Row st [i] i
  | more {r : List Nat} {x i : Nat} : Row st r x → i < st.length → x ∈ nds st i → Row st (r ++ [i]) i
def sm (ts r : List Nat) : Nat := (r.map (at0 ts)).sum
theorem Row.le {st : List (List Nat)} (v : Ok st) (ts : List Nat) {r : List Nat} {i : Nat} (h : Row st r i) : sm ts r ≤ e_ st ts i := by
  induction h with
  | one hi => rw [e_eq v ts hi]; simp [sm]
  | more h hi hx ih =>
    rename_i r x i
    rw [e_eq v ts hi]
    have := mx_le ((nds st i).map (e_ st ts)) 0 (e_ st ts x) (.inr (.inl (List.mem_map.mpr ⟨x, hx, rfl⟩)))
    simp only [sm, List.map_append, List.sum_append, List.map_cons, List.map_nil, List.sum_cons, List.sum_nil] at ih ⊢
    omega
/-- .. and one of them comes to the end -/
theorem Row.ex {st : List (List Nat)} (v : Ok st) (ts : List Nat) : ∀ i, i < st.length → ∃ r, Row st r i ∧ sm ts r = e_ st ts i := by
  obtain ⟨rk, hrk⟩ := v.rank
  have go : ∀ (n i : Nat), rk i ≤ n → i < st.length → ∃ r, Row st r i ∧ sm ts r = e_ st ts i := fun n => by
    induction n with
    | zero =>
      intro i hn hi
      refine ⟨[i], .one hi, ?_⟩
      rw [e_eq v ts hi]
      rcases mx_in ((nds st i).map (e_ st ts)) 0 with h | h
      · rw [h]; simp [sm]
      · obtain ⟨x, hx, _⟩ := List.mem_map.mp h
        have := hrk i st[i] (List.getElem?_eq_getElem hi) x (by simpa [nds, List.getD_eq_getElem?_getD, hi] using hx)
        omega
    | succ n ih =>
      intro i hn hi
      rcases mx_in ((nds st i).map (e_ st ts)) 0 with h | h
      · refine ⟨[i], .one hi, ?_⟩
        rw [e_eq v ts hi, h]; simp [sm]
      · obtain ⟨x, hx, ex⟩ := List.mem_map.mp h
        have lt := hrk i st[i] (List.getElem?_eq_getElem hi) x (by simpa [nds, List.getD_eq_getElem?_getD, hi] using hx)
        obtain ⟨r, h1, h2⟩ := ih x (by omega) (v.nds_lt hx)
        refine ⟨r ++ [i], .more h1 hi hx, ?_⟩
        rw [e_eq v ts hi, ← ex, ← h2]
        simp only [sm, List.map_append, List.sum_append, List.map_cons, List.map_nil, List.sum_cons, List.sum_nil]
        omega
  exact fun i => go (rk i) i (Nat.le_refl _)
theorem Row.last {st : List (List Nat)} {r : List Nat} {i : Nat} (h : Row st r i) : i < st.length ∧ i ∈ r ∧ r ≠ [] ∧ r.getLast? = some i := by
  cases h with
  | one hi => exact ⟨hi, by simp, by simp, by simp⟩
  | more h hi hx => exact ⟨hi, by simp, by simp, by simp⟩
/-- a row's stages rise in rank -/
theorem Row.rank {st : List (List Nat)} {rk : Nat → Nat} (hrk : ∀ (i : Nat) (l : List Nat), st[i]? = some l → ∀ x ∈ l, rk x < rk i) {r : List Nat} {i : Nat} (h : Row st r i) : (∀ x ∈ r, x < st.length ∧ rk x ≤ rk i) ∧ r.Pairwise (fun a b => rk a < rk b) := by
  induction h with
  | one hi => exact ⟨fun x hx => by rw [List.mem_singleton.mp hx]; exact ⟨hi, Nat.le_refl _⟩, by simp⟩
  | more h hi hx ih =>
    rename_i r x i
    have lt := hrk i st[i] (List.getElem?_eq_getElem hi) x (by simpa [nds, List.getD_eq_getElem?_getD, hi] using hx)
    refine ⟨fun y hy => ?_, List.pairwise_append.mpr ⟨ih.2, by simp, fun a ha b hb => ?_⟩⟩
    · rcases List.mem_append.mp hy with q | q
      · have := ih.1 y q
        exact ⟨this.1, by omega⟩
      · rw [List.mem_singleton.mp q]; exact ⟨hi, Nat.le_refl _⟩
    · rw [List.mem_singleton.mp hb]
      have := ih.1 a ha
      omega
theorem Row.nodup {st : List (List Nat)} (v : Ok st) {r : List Nat} {i : Nat} (h : Row st r i) : r.Nodup := by
  obtain ⟨rk, hrk⟩ := v.rank
  exact (h.rank hrk).2.imp fun h e => by rw [e] at h; exact Nat.lt_irrefl _ h
/-- what goes on behind a stage -/
inductive Tail (st : List (List Nat)) : Nat → List Nat → Nat → Prop
  | nil {i : Nat} : Tail st i [] i
  | cons {i j k : Nat} {r : List Nat} : j < st.length → i ∈ nds st j → Tail st j r k → Tail st i (j :: r) k
theorem Tail.row {st : List (List Nat)} {i k : Nat} {r2 : List Nat} (t : Tail st i r2 k) : ∀ {r1 : List Nat}, Row st r1 i → Row st (r1 ++ r2) k := by
  induction t with
  | nil => intro r1 h; rw [List.append_nil]; exact h
  | cons hj hi t ih =>
    intro r1 h
    rw [List.append_cons]
    exact ih (.more h hj hi)
theorem Tail.snoc {st : List (List Nat)} {i k j : Nat} {r : List Nat} (t : Tail st i r k) (hj : j < st.length) (hk : k ∈ nds st j) : Tail st i (r ++ [j]) j := by
  induction t with
  | nil => exact .cons hj hk .nil
  | cons h1 h2 t ih => exact .cons h1 h2 (ih hk)
/-- a row parted at one of its stages -/
theorem Row.split {st : List (List Nat)} {r : List Nat} {k : Nat} (h : Row st r k) : ∀ a ∈ r, ∃ r1 r2, r = r1 ++ r2 ∧ Row st r1 a ∧ Tail st a r2 k := by
  induction h with
  | one hi =>
    intro a ha
    rw [List.mem_singleton.mp ha]
    exact ⟨_, [], (List.append_nil _).symm, .one hi, .nil⟩
  | more h hi hx ih =>
    rename_i r x i
    intro a ha
    rcases List.mem_append.mp ha with q | q
    · obtain ⟨r1, r2, e, h1, h2⟩ := ih a q
      exact ⟨r1, r2 ++ [i], by rw [e, List.append_assoc], h1, h2.snoc hi hx⟩
    · rw [List.mem_singleton.mp q]
      exact ⟨r ++ [i], [], (List.append_nil _).symm, .more h hi hx, .nil⟩
end Lw
end
section
set_option Elab.async false
set_option linter.all false
set_option maxRecDepth 100000
set_option maxHeartbeats 4000000
open PySem PySem.Spec PyProof.Rows L2 PD
namespace Lw
def atz (l : List Int) (i : Nat) : Int := l.getD i 0
theorem atz_set {l : List Int} {a i : Nat} {x : Int} (h : a ≠ i) : atz (l.set a x) i = atz l i := by
  simp [atz, List.getD_eq_getElem?_getD, List.getElem?_set_ne h]
theorem atz_self {l : List Int} {a : Nat} {x : Int} (h : a < l.length) : atz (l.set a x) a = x := by
  simp [atz, List.getD_eq_getElem?_getD, h]
/-- latest[x] = min(latest[x], latest[j] - times[j]) -/
def lowStep (ts : List Nat) (j : Nat) (L : List Int) (x : Nat) : List Int := L.set x (if atz L j - (at0 ts j : Int) < atz L x then atz L j - (at0 ts j : Int) else atz L x)
def low1 (st : List (List Nat)) (ts : List Nat) (L : List Int) (j : Nat) : List Int := (nds st j).foldl (lowStep ts j) L
def low (st : List (List Nat)) (ts : List Nat) (G : Int) : List Int := (ord st).reverse.foldl (low1 st ts) (List.replicate st.length G)
theorem lowStep_len (ts : List Nat) (j : Nat) (L : List Int) (x : Nat) : (lowStep ts j L x).length = L.length := by simp [lowStep]
theorem lowFold_len (ts : List Nat) (j : Nat) : ∀ (l : List Nat) (L : List Int), (l.foldl (lowStep ts j) L).length = L.length
  | [], _ => rfl
  | x :: l, L => by rw [List.foldl_cons, lowFold_len ts j l, lowStep_len]
theorem lowFold (ts : List Nat) (j : Nat) : ∀ (l : List Nat) (L : List Int), l.Nodup → j ∉ l → (∀ x ∈ l, x < L.length) →
    (∀ i, i ∉ l → atz (l.foldl (lowStep ts j) L) i = atz L i) ∧ ∀ i ∈ l, atz (l.foldl (lowStep ts j) L) i = if atz L j - (at0 ts j : Int) < atz L i then atz L j - (at0 ts j : Int) else atz L i
  | [], L, _, _, _ => ⟨fun _ _ => rfl, fun _ h => nomatch h⟩
  | x :: l, L, nd, hj, hl => by
    obtain ⟨n1, n2⟩ := List.nodup_cons.mp nd
    have jx : x ≠ j := fun e => hj (by rw [e]; exact List.mem_cons_self)
    obtain ⟨h1, h2⟩ := lowFold ts j l (lowStep ts j L x) n2 (fun h => hj (List.mem_cons_of_mem _ h)) fun y hy => by rw [lowStep_len]; exact hl y (List.mem_cons_of_mem _ hy)
    have ej : atz (lowStep ts j L x) j = atz L j := atz_set jx
    rw [List.foldl_cons]
    refine ⟨fun i hi => ?_, fun i hi => ?_⟩
    · rw [h1 i fun h => hi (List.mem_cons_of_mem _ h)]
      exact atz_set fun e => hi (by rw [e]; exact List.mem_cons_self)
    · rcases List.mem_cons.mp hi with q | q
      · subst q
        rw [h1 i n1, lowStep, atz_self (hl i List.mem_cons_self)]
      · rw [h2 i q, ej]
        have : atz (lowStep ts j L x) i = atz L i := atz_set fun e => n1 (by rw [e]; exact q)
        rw [this]
/-- what holds behind the stages S -/
structure Low (st : List (List Nat)) (ts : List Nat) (G : Int) (S : List Nat) (L : List Int) : Prop where
  len : L.length = st.length
  top : ∀ i, i < st.length → atz L i ≤ G
  le : ∀ j ∈ S, ∀ i ∈ nds st j, atz L i ≤ atz L j - (at0 ts j : Int)
  eq : ∀ i, i < st.length → atz L i = G ∨ ∃ j ∈ S, i ∈ nds st j ∧ atz L i = atz L j - (at0 ts j : Int)
theorem Low.step {st : List (List Nat)} {ts : List Nat} {G : Int} {S : List Nat} {L : List Int} {j : Nat} (h : Low st ts G S L) (nd : (nds st j).Nodup) (hj : j ∉ nds st j) (hl : ∀ x ∈ nds st j, x < st.length) (hS : ∀ x ∈ nds st j, x ∉ S) (jS : j ∉ S) :
    Low st ts G (j :: S) (low1 st ts L j) := by
  obtain ⟨f1, f2⟩ := lowFold ts j (nds st j) L nd hj fun x hx => by rw [h.len]; exact hl x hx
  have f2 : ∀ i ∈ nds st j, atz (low1 st ts L j) i = if atz L j - (at0 ts j : Int) < atz L i then atz L j - (at0 ts j : Int) else atz L i := f2
  have f1 : ∀ i, i ∉ nds st j → atz (low1 st ts L j) i = atz L i := f1
  have fj := f1 j hj
  have fS : ∀ x ∈ S, atz (low1 st ts L j) x = atz L x := fun x hx => f1 x fun q => hS x q hx
  have dn : ∀ i, atz (low1 st ts L j) i ≤ atz L i := fun i => by
    by_cases q : i ∈ nds st j
    · rw [f2 i q]; split <;> omega
    · rw [f1 i q]; exact Int.le_refl _
  refine ⟨(lowFold_len ts j _ L).trans h.len, fun i hi => Int.le_trans (dn i) (h.top i hi), fun k hk i hi => ?_, fun i hi => ?_⟩
  · rcases List.mem_cons.mp hk with q | q
    · subst q
      rw [fj, f2 i hi]; split <;> omega
    · rw [fS k q]
      exact Int.le_trans (dn i) (h.le k q i hi)
  · by_cases q : i ∈ nds st j
    · rw [f2 i q]
      split
      · exact .inr ⟨j, List.mem_cons_self, q, by rw [fj]⟩
      · rcases h.eq i hi with e | ⟨k, k1, k2, k3⟩
        · exact .inl e
        · exact .inr ⟨k, List.mem_cons_of_mem _ k1, k2, by rw [fS k k1]; exact k3⟩
    · rw [f1 i q]
      rcases h.eq i hi with e | ⟨k, k1, k2, k3⟩
      · exact .inl e
      · exact .inr ⟨k, List.mem_cons_of_mem _ k1, k2, by rw [fS k k1]; exact k3⟩
theorem topo {st : List (List Nat)} (v : Ok st) : ∀ k, k ≤ st.length → ∀ (p s : List Nat) (j : Nat), ordN st k = p ++ j :: s → ∀ x ∈ nds st j, x ∈ p
  | 0, _, p, s, j, e, _, _ => by
    have := congrArg List.length e
    simp [ordN] at this
  | k + 1, hk, p, s, j, e, x, hx => by
    obtain ⟨a, ea, fa⟩ := v.next (show k < st.length by omega)
    rw [ea] at e
    rcases List.eq_nil_or_concat s with z | ⟨s0, b, z⟩
    · subst z
      obtain ⟨e1, e2⟩ := List.append_inj' e rfl
      cases e2
      rw [← e1]
      exact (free_mem fa).2.2 x hx
    · subst z
      rw [List.concat_eq_append, ← List.cons_append, ← List.append_assoc] at e
      obtain ⟨e1, _⟩ := List.append_inj' e rfl
      exact topo v k (by omega) p s0 j e1 x hx
theorem Ok.nds_rise {st : List (List Nat)} (v : Ok st) (a : Nat) : rising (nds st a) := by
  unfold nds
  rw [List.getD_eq_getElem?_getD]
  by_cases h : a < st.length
  · rw [List.getElem?_eq_getElem h]; exact v.rise _ (List.getElem_mem h)
  · rw [List.getElem?_eq_none (by omega)]; exact List.Pairwise.nil
theorem Ok.nds_self {st : List (List Nat)} (v : Ok st) (a : Nat) : a ∉ nds st a := by
  obtain ⟨r, hr⟩ := v.rank
  unfold nds
  rw [List.getD_eq_getElem?_getD]
  by_cases h : a < st.length
  · rw [List.getElem?_eq_getElem h]
    exact fun z => Nat.lt_irrefl _ (hr a _ (List.getElem?_eq_getElem h) a z)
  · rw [List.getElem?_eq_none (by omega)]; simp
theorem low_ok {st : List (List Nat)} (v : Ok st) (ts : List Nat) (G : Int) : Low st ts G (ord st) (low st ts G) := by
  have go : ∀ (s p : List Nat), ord st = p ++ s → Low st ts G s (s.reverse.foldl (low1 st ts) (List.replicate st.length G)) := fun s => by
    induction s with
    | nil =>
      intro p e
      refine ⟨by simp, fun i hi => ?_, (fun j h => nomatch h), fun i hi => .inl ?_⟩ <;> simp [atz, List.getD_eq_getElem?_getD, hi]
    | cons j s ih =>
      intro p e
      have h := ih (p ++ [j]) (by rw [e]; simp)
      have nd := (ord_all v).1
      rw [e] at nd
      have tp := topo v st.length (Nat.le_refl _) p s j e
      rw [List.reverse_cons, List.foldl_append]
      obtain ⟨n1, n2, n3⟩ := List.nodup_append.mp nd
      refine h.step (rising_nodup (v.nds_rise j)) (v.nds_self j) (fun x hx => v.nds_lt hx) (fun x hx hs => ?_) (List.nodup_cons.mp n2).1
      exact n3 x (tp x hx) x (List.mem_cons_of_mem _ hs) rfl
  exact go (ord st) [] rfl
end Lw
end
section
set_option Elab.async false
set_option linter.all false
set_option maxRecDepth 100000
set_option maxHeartbeats 4000000
open PySem PySem.Spec PyProof.Rows L2 PD
namespace Lw
theorem ord_lt {st : List (List Nat)} (v : Ok st) {i j : Nat} (hj : j < st.length) (hi : i ∈ nds st j) : (ord st).idxOf i < (ord st).idxOf j := by
  obtain ⟨nd, _, _, all⟩ := ord_all v
  have hm := all j hj
  have hk : (ord st).idxOf j < (ord st).length := List.idxOf_lt_length_of_mem hm
  have ej : (ord st)[(ord st).idxOf j] = j := List.getElem_idxOf hk
  have dec : ord st = (ord st).take ((ord st).idxOf j) ++ (ord st)[(ord st).idxOf j] :: (ord st).drop ((ord st).idxOf j + 1) := by
    rw [← List.drop_eq_getElem_cons hk, List.take_append_drop]
  rw [ej] at dec
  have := topo v st.length (Nat.le_refl _) _ _ _ dec i hi
  obtain ⟨m, hm2, em⟩ := List.mem_iff_getElem.mp this
  have hm3 : m < (ord st).idxOf j ∧ m < (ord st).length := by simpa [Nat.lt_min] using hm2
  have em2 : (ord st)[m]'hm3.2 = i := by rw [← em]; simp
  have : (ord st).idxOf i = m := by rw [← em2]; exact nd.idxOf_getElem m hm3.2
  omega
section
variable {st : List (List Nat)} {ts : List Nat} {G : Int} {L : List Int}
theorem Tail.le (v : Ok st) (h : Low st ts G (ord st) L) {i k : Nat} {r : List Nat} (t : Tail st i r k) (hi : i < st.length) : (sm ts r : Int) ≤ G - atz L i := by
  induction t with
  | nil =>
    have := h.top _ hi
    simp [sm]; omega
  | cons hj hx t ih =>
    rename_i i j k r
    have h1 := ih hj
    have h2 := h.le j ((ord_all v).2.2.2 j hj) i hx
    simp only [sm, List.map_cons, List.sum_cons] at h1 ⊢
    omega
theorem Tail.ex (v : Ok st) (h : Low st ts G (ord st) L) : ∀ (n i : Nat), st.length - (ord st).idxOf i ≤ n → i < st.length → ∃ r k, Tail st i r k ∧ (sm ts r : Int) = G - atz L i
  | 0, i, hn, hi => by
    have := List.idxOf_lt_length_of_mem ((ord_all v).2.2.2 i hi)
    rw [(ord_all v).2.2.1] at this
    omega
  | n + 1, i, hn, hi => by
    rcases h.eq i hi with e | ⟨j, hj, hx, e⟩
    · exact ⟨[], i, .nil, by simp [sm]; omega⟩
    · have hj2 := (ord_all v).2.1 j hj
      have lt := ord_lt v hj2 hx
      have lj := List.idxOf_lt_length_of_mem hj
      rw [(ord_all v).2.2.1] at lj
      obtain ⟨r, k, t, es⟩ := Tail.ex v h n j (by omega) hj2
      refine ⟨j :: r, k, .cons hj2 hx t, ?_⟩
      simp only [sm, List.map_cons, List.sum_cons] at es ⊢
      omega
/-- each row through i is no longer than the greatest but for i's slack -/
theorem Row.through (v : Ok st) (h : Low st ts G (ord st) L) {r : List Nat} {k i : Nat} (hr : Row st r k) (hi : i ∈ r) : (sm ts r : Int) ≤ e_ st ts i + (G - atz L i) := by
  obtain ⟨r1, r2, e, h1, h2⟩ := hr.split i hi
  have a1 := h1.le v ts
  have a2 := h2.le v h h1.last.1
  have : sm ts r = sm ts r1 + sm ts r2 := by rw [e]; simp [sm]
  omega
/-- and one is as long -/
theorem Row.through_ex (v : Ok st) (h : Low st ts G (ord st) L) {i : Nat} (hi : i < st.length) : ∃ r k, Row st r k ∧ i ∈ r ∧ (sm ts r : Int) = e_ st ts i + (G - atz L i) := by
  obtain ⟨r1, h1, e1⟩ := Row.ex v ts i hi
  obtain ⟨r2, k, h2, e2⟩ := Tail.ex v h _ i (Nat.le_refl _) hi
  refine ⟨r1 ++ r2, k, h2.row h1, List.mem_append_left _ h1.last.2.1, ?_⟩
  have : sm ts (r1 ++ r2) = sm ts r1 + sm ts r2 := by simp [sm]
  omega
end
/-- a stage longer by x -/
theorem sm_set {ts : List Nat} {a x : Nat} (ha : a < ts.length) : ∀ {r : List Nat}, r.Nodup → sm (ts.set a (at0 ts a + x)) r = sm ts r + if a ∈ r then x else 0
  | [], _ => by simp [sm]
  | y :: r, nd => by
    obtain ⟨n1, n2⟩ := List.nodup_cons.mp nd
    have ih := sm_set (x := x) ha n2
    simp only [sm, List.map_cons, List.sum_cons] at ih ⊢
    rw [ih]
    by_cases e : a = y
    · subst e
      rw [at0_self ha, if_neg n1, if_pos List.mem_cons_self]
      omega
    · rw [at0_set e]
      by_cases q : a ∈ r
      · rw [if_pos q, if_pos (List.mem_cons_of_mem _ q)]; omega
      · rw [if_neg q, if_neg fun z => q ((List.mem_cons.mp z).resolve_left e)]; omega
def gr : List Nat → Nat
  | [] => 0
  | x :: l => mx x l
theorem le_gr {l : List Nat} {x : Nat} (h : x ∈ l) : x ≤ gr l := by
  cases l with
  | nil => cases h
  | cons y l =>
    rcases List.mem_cons.mp h with q | q
    · exact mx_le l y x (.inl (by omega))
    · exact mx_le l y x (.inr (.inl q))
theorem gr_mem {l : List Nat} (h : l ≠ []) : gr l ∈ l := by
  cases l with
  | nil => exact absurd rfl h
  | cons y l =>
    rcases mx_in l y with q | q
    · show mx y l ∈ _
      rw [q]; exact List.mem_cons_self
    · exact List.mem_cons_of_mem _ q
theorem ends_len (st : List (List Nat)) (ts : List Nat) : (ends st ts).length = st.length := endsOn_len _ _ _
theorem e_mem {st : List (List Nat)} {ts : List Nat} {i : Nat} (hi : i < st.length) : e_ st ts i ∈ ends st ts := by
  have h : i < (ends st ts).length := by rw [ends_len]; exact hi
  have : e_ st ts i = (ends st ts)[i] := by simp [e_, at0, List.getD_eq_getElem?_getD, h]
  rw [this]
  exact List.getElem_mem h
theorem row_gr {st : List (List Nat)} (v : Ok st) (ts : List Nat) {r : List Nat} {k : Nat} (h : Row st r k) : sm ts r ≤ gr (ends st ts) := Nat.le_trans (h.le v ts) (le_gr (e_mem h.last.1))
theorem gr_row {st : List (List Nat)} (v : Ok st) (ts : List Nat) : ∃ r k, Row st r k ∧ sm ts r = gr (ends st ts) := by
  have ne : ends st ts ≠ [] := fun e => by
    have := ends_len st ts
    have := v.n1
    rw [e] at *
    simp at *
    omega
  obtain ⟨k, hk, ek⟩ := List.mem_iff_getElem.mp (gr_mem ne)
  have hk2 : k < st.length := by rw [← ends_len st ts]; exact hk
  obtain ⟨r, h1, h2⟩ := Row.ex v ts k hk2
  refine ⟨r, k, h1, ?_⟩
  rw [h2, ← ek]
  simp [e_, at0, List.getD_eq_getElem?_getD, hk]
/-- the slack's own facts -/
theorem slack_ok {st : List (List Nat)} (v : Ok st) {ts : List Nat} (ht : ts.length = st.length) {L : List Int} (h : Low st ts (gr (ends st ts)) (ord st) L) {i : Nat} (hi : i < st.length) :
    ∃ s : Nat, atz L i - e_ st ts i = (s : Int) ∧ gr (ends st (ts.set i (at0 ts i + s))) = gr (ends st ts) ∧ gr (ends st ts) < gr (ends st (ts.set i (at0 ts i + (s + 1)))) := by
  obtain ⟨r, k, h1, h2, h3⟩ := Row.through_ex v h hi
  have h4 := row_gr v ts h1
  refine ⟨(atz L i - e_ st ts i).toNat, by omega, ?_, ?_⟩
  · apply Nat.le_antisymm
    · obtain ⟨r', k', g1, g2⟩ := gr_row v (ts.set i (at0 ts i + (atz L i - e_ st ts i).toNat))
      rw [← g2, sm_set (by omega) (g1.nodup v)]
      by_cases q : i ∈ r'
      · have := g1.through v h q
        rw [if_pos q]; omega
      · have := row_gr v ts g1
        rw [if_neg q]; omega
    · obtain ⟨r', k', g1, g2⟩ := gr_row v ts
      have := row_gr v (ts.set i (at0 ts i + (atz L i - e_ st ts i).toNat)) g1
      rw [sm_set (by omega) (g1.nodup v)] at this
      omega
  · have := row_gr v (ts.set i (at0 ts i + ((atz L i - e_ st ts i).toNat + 1))) h1
    rw [sm_set (by omega) (h1.nodup v), if_pos h2] at this
    omega
/-- a longest row's stages have no slack -/
theorem slack_row {st : List (List Nat)} (v : Ok st) {ts : List Nat} {L : List Int} (h : Low st ts (gr (ends st ts)) (ord st) L) {r : List Nat} {k i : Nat} (hr : Row st r k) (hs : sm ts r = gr (ends st ts)) (hi : i ∈ r) : atz L i - e_ st ts i ≤ 0 := by
  have := hr.through v h hi
  omega
/-- longer times, no earlier ends -/
theorem ends_mono {st : List (List Nat)} (v : Ok st) {ts : List Nat} {a x : Nat} (ha : a < ts.length) {i : Nat} (hi : i < st.length) : e_ st ts i ≤ e_ st (ts.set a (at0 ts a + x)) i := by
  obtain ⟨r, h1, h2⟩ := Row.ex v ts i hi
  have := h1.le v (ts.set a (at0 ts a + x))
  rw [sm_set ha (h1.nodup v)] at this
  omega
end Lw
end
section
set_option Elab.async false
set_option linter.all false
set_option maxRecDepth 100000
set_option maxHeartbeats 4000000
open PySem PySem.Spec PyProof.Rows L2 PD
namespace Lw
theorem maxOf_gr {l : List Nat} (h : l ≠ []) : maxOfD [.list (l.map nD)] = some (nD (gr l)) := by
  cases l with
  | nil => exact absurd rfl h
  | cons x l => exact maxOf_nD x l
theorem maxOf_grT {l : List Nat} (h : l ≠ []) : maxOfD [.tuple (l.map nD)] = some (nD (gr l)) := by
  cases l with
  | nil => exact absurd rfl h
  | cons x l =>
    have := okMin_nD (l := x :: l) (by simp)
    unfold maxOfD
    rw [List.map_cons] at this ⊢
    simp only [this, if_true, maxD_nD]
    rfl
theorem ends_ne {st : List (List Nat)} (v : Ok st) (ts : List Nat) : ends st ts ≠ [] := fun e => by
  have h1 := ends_len st ts
  have := v.n1
  rw [e] at h1
  simp at h1
  omega
theorem ix_iL {l : List Int} {a : Nat} (h : a < l.length) : ixD (.list (l.map PyData.int)) (nD a) = some (.int (atz l a)) := by
  show ixD _ (.int (a : Int)) = _
  rw [ixD_list (by simpa using h)]
  simp [atz, List.getD, h]
def slackD (st : List (List Nat)) (ts : List Nat) : List PyData := ((low st ts (gr (ends st ts))).zip (ends st ts)).map fun p => .int (p.1 - (p.2 : Int))
def S_slacks_of : FSpec := fun avs hd Q E => ∃ st ts, avs = [.d (stD st), .d (nT ts)] ∧ Ok st ∧ ts.length = st.length ∧ (∀ x ∈ ts, x ≤ 100) ∧ Q (.tuple (slackD st ts)) hd
theorem rd_slacks_of (avs hd Q E) (h : S_slacks_of avs hd Q E) : t_slacks_of S_check_times S_raw_ends (fnEnds false Q) ⟨initG ["stages", "times", "order", "ends", "latest", "number", "need", "late", "end"] avs, hd⟩ := by
  obtain ⟨st, ts, rfl, v, ht, hx, q⟩ := h
  have h2 := v.n2
  simp only [t_slacks_of]
  simp [S_check_times, S_raw_ends, and_assoc]
  refine ⟨st, rfl, ts, rfl, v, ht, hx, st, rfl, ts, rfl, ord st, rfl, v, ht, (ord_all v).2.1, ?_⟩
  have e1 : nL (endsOn st ts (ord st)) = .list ((ends st ts).map nD) := rfl
  rw [e1]
  refine ⟨_, maxOf_gr (ends_ne v ts), ?_⟩
  simp [stD, nT]
  have rp : repL (.list [nD (gr (ends st ts))]) (.int (st.length : Int)) = some (.list ((List.replicate st.length ((gr (ends st ts) : Nat) : Int)).map .int)) := by
    simp only [repL, repD]
    rw [if_pos ⟨by omega, by omega, by simp [sizeLine]; omega⟩]
    simp [nD]
  have bk : backD (.tuple ((ord st).map nD)) = some (.tuple ((ord st).reverse.map nD)) := by
    show some (PyData.tuple _) = _
    rw [List.map_reverse]
  refine ⟨by simp [sizeLine], _, rp, _, bk, _, .inr rfl, ?_⟩
  refine fRun_inv (fun i s => ∃ S5 S6, s = ⟨[.v (.tuple (st.map nT)), .v (.tuple (ts.map nD)), .v (.tuple ((ord st).map nD)), .v (.list ((ends st ts).map nD)), .m (.list ((((ord st).reverse.take i).foldl (low1 st ts) (List.replicate st.length ((gr (ends st ts) : Nat) : Int))).map .int)), S5, S6, .no, .no], hd⟩) ?_ ?_ ⟨.no, .no, rfl⟩
  · rintro i d s N hd' ⟨S5, S6, rfl⟩ hN
    have hi : i < (ord st).reverse.length := by simpa using (List.getElem?_eq_some_iff.mp hd').1
    have ed : d = nD (ord st).reverse[i] := by
      rw [List.getElem?_map, List.getElem?_eq_getElem hi] at hd'
      exact (Option.some.inj hd').symm
    subst ed
    have hj := (ord_all v).2.1 _ (List.mem_reverse.mp (List.getElem_mem hi))
    have et : ((ord st).reverse.take (i + 1)).foldl (low1 st ts) (List.replicate st.length ((gr (ends st ts) : Nat) : Int)) = low1 st ts (((ord st).reverse.take i).foldl (low1 st ts) (List.replicate st.length ((gr (ends st ts) : Nat) : Int))) (ord st).reverse[i] := by
      rw [List.take_succ_eq_append_getElem hi, List.foldl_append]; rfl
    rw [et] at hN
    have el : (((ord st).reverse.take i).foldl (low1 st ts) (List.replicate st.length ((gr (ends st ts) : Nat) : Int))).length = st.length := by
      have go : ∀ (l : List Nat) (L : List Int), (l.foldl (low1 st ts) L).length = L.length := fun l => by
        induction l with
        | nil => exact fun _ => rfl
        | cons x l ih => intro L; rw [List.foldl_cons, ih]; exact lowFold_len ts x _ L
      rw [go]; simp
    generalize ((ord st).reverse.take i).foldl (low1 st ts) (List.replicate st.length ((gr (ends st ts) : Nat) : Int)) = L at hN el ⊢
    generalize (ord st).reverse[i] = j at hj hN ⊢
    simp [ix_st hj, nT]
    refine fRun_inv (fun m s => ∃ S6, s = ⟨[.v (.tuple (st.map nT)), .v (.tuple (ts.map nD)), .v (.tuple ((ord st).map nD)), .v (.list ((ends st ts).map nD)), .m (.list ((((nds st j).take m).foldl (lowStep ts j) L).map .int)), .v (nD j), S6, .no, .no], hd⟩) ?_ ?_ ⟨S6, rfl⟩
    · rintro m d s N2 hd2 ⟨S6, rfl⟩ hN2
      have hm : m < (nds st j).length := by simpa using (List.getElem?_eq_some_iff.mp hd2).1
      have ed : d = nD (nds st j)[m] := by
        rw [List.getElem?_map, List.getElem?_eq_getElem hm] at hd2
        exact (Option.some.inj hd2).symm
      subst ed
      have hx2 := v.nds_lt (List.getElem_mem hm)
      have et2 : ((nds st j).take (m + 1)).foldl (lowStep ts j) L = lowStep ts j (((nds st j).take m).foldl (lowStep ts j) L) (nds st j)[m] := by
        rw [List.take_succ_eq_append_getElem hm, List.foldl_append]; rfl
      rw [et2] at hN2
      have el2 : (((nds st j).take m).foldl (lowStep ts j) L).length = st.length := (lowFold_len ts j _ L).trans el
      generalize ((nds st j).take m).foldl (lowStep ts j) L = L2 at hN2 el2 ⊢
      generalize (nds st j)[m] = x at hx2 hN2 ⊢
      have sb : subD (.int (atz L2 j)) (nD (at0 ts j)) = some (.int (atz L2 j - (at0 ts j : Int))) := rfl
      simp [ix_iL (l := L2) (a := x) (by omega), ix_iL (l := L2) (a := j) (by omega), ix_nT (l := ts) (a := j) (by omega), sb]
      refine ⟨_, rfl, x, ixN_nat (by omega), hN2 _ ⟨.v (nD x), ?_⟩⟩
      rw [lowStep, List.map_set]
    · rintro s ⟨S6, rfl⟩
      rw [List.length_map, List.take_length]
      exact hN _ ⟨_, _, rfl⟩
  · rintro s ⟨S5, S6, rfl⟩
    simp
    have full : List.foldl (low1 st ts) (List.replicate st.length ((gr (ends st ts) : Nat) : Int)) (List.take (ord st).length (ord st).reverse) = low st ts (gr (ends st ts)) := by
      rw [List.take_of_length_le (by simp)]; rfl
    rw [full]
    have ll := (low_ok v ts (gr (ends st ts))).len
    have zz : zipD ((low st ts (gr (ends st ts))).map PyData.int) ((ends st ts).map nD) = ((low st ts (gr (ends st ts))).zip (ends st ts)).map fun p => .tuple [.int p.1, nD p.2] := by
      unfold zipD
      rw [List.zip_map]
      simp
    refine ⟨_, _, ⟨rfl, rfl⟩, ?_⟩
    rw [zz]
    refine ⟨by simp [sizeLine, ll]; omega, cRun_of _ (fun p => .int (p.1 - (p.2 : Int))) _ (fun p hp Y y => ?_) _ _ ?_⟩
    · simpa [nD, and_assoc] using y
    · rw [List.nil_append]
      exact q
theorem mono_slacks_of : MonoF S_slacks_of := fun avs hd Q Q' E E' w _ ⟨i, t, e, p, r, x, q⟩ => ⟨i, t, e, p, r, x, w _ _ q⟩
end Lw
end
section
set_option Elab.async false
set_option linter.all false
set_option maxRecDepth 100000
set_option maxHeartbeats 4000000
open PySem PySem.Spec PyProof.Rows L2 PD
namespace Lw
theorem mono_is_integer : MonoF S_is_integer := fun avs hd Q Q' E E' w _ ⟨i, e, q⟩ => ⟨i, e, w _ _ q⟩
theorem mono_is_within : MonoF S_is_within := fun avs hd Q Q' E E' w _ ⟨i, lo, h, e, q⟩ => ⟨i, lo, h, e, w _ _ q⟩
theorem mono_is_sized : MonoF S_is_sized := fun avs hd Q Q' E E' w _ ⟨i, lo, h, e, p, q⟩ => ⟨i, lo, h, e, p, w _ _ q⟩
theorem mono_are_rising : MonoF S_are_rising := fun avs hd Q Q' E E' w _ ⟨i, e, p, r, q⟩ => ⟨i, e, p, r, w _ _ q⟩
theorem mono_is_lot : MonoF S_is_lot := fun avs hd Q Q' E E' w _ ⟨i, n, e, p, r, t, q⟩ => ⟨i, n, e, p, r, t, w _ _ q⟩
theorem mono_are_stages : MonoF S_are_stages := fun avs hd Q Q' E E' w _ ⟨i, e, p, q⟩ => ⟨i, e, p, w _ _ q⟩
theorem mono_check_stages : MonoF S_check_stages := fun avs hd Q Q' E E' w _ ⟨i, e, p, q⟩ => ⟨i, e, p, w _ _ q⟩
theorem mono_least_order : MonoF S_least_order := fun avs hd Q Q' E E' w _ ⟨i, e, p, q⟩ => ⟨i, e, p, w _ _ q⟩
theorem mono_check_ringless : MonoF S_check_ringless := fun avs hd Q Q' E E' w _ ⟨i, e, p, q⟩ => ⟨i, e, p, w _ _ q⟩
theorem mono_check_times : MonoF S_check_times := fun avs hd Q Q' E E' w _ ⟨i, t, e, p, r, x, q⟩ => ⟨i, t, e, p, r, x, w _ _ q⟩
theorem mono_raw_ends : MonoF S_raw_ends := fun avs hd Q Q' E E' w _ ⟨i, t, o, e, p, r, x, q⟩ => ⟨i, t, o, e, p, r, x, w _ _ q⟩
theorem mono_ends_of : MonoF S_ends_of := fun avs hd Q Q' E E' w _ ⟨i, t, e, p, r, x, q⟩ => ⟨i, t, e, p, r, x, w _ _ q⟩
theorem mono__law_draw : MonoF S__law_draw := fun avs hd Q Q' E E' w _ ⟨n, e, a, b, c, q⟩ => ⟨n, e, a, b, c, fun v hd' x y => w _ _ (q v hd' x y)⟩
theorem mono__law_any : MonoF S__law_any := fun avs hd Q Q' E E' w _ ⟨n, e, a, b, c, q⟩ => ⟨n, e, a, b, c, fun v x hd' y => w _ _ (q v x hd' y)⟩
theorem mono__law_mixed : MonoF S__law_mixed := fun avs hd Q Q' E E' w _ ⟨n, e, a, c, q⟩ => ⟨n, e, a, c, fun v hd' x y => w _ _ (q v hd' x y)⟩
theorem mono__law_times : MonoF S__law_times := fun avs hd Q Q' E E' w _ ⟨n, e, a, c, q⟩ => ⟨n, e, a, c, fun v hd' x z y => w _ _ (q v hd' x z y)⟩
theorem mono__law_is_integer : MonoF S__law_is_integer := fun avs hd Q Q' E E' w _ ⟨i, e, q⟩ => ⟨i, e, w _ _ q⟩
theorem mono__law_order : MonoF S__law_order := fun avs hd Q Q' E E' w _ ⟨i, e, p, q⟩ => ⟨i, e, p, w _ _ q⟩
theorem mono__law_ends : MonoF S__law_ends := fun avs hd Q Q' E E' w _ ⟨i, t, e, p, r, q⟩ => ⟨i, t, e, p, r, w _ _ q⟩
theorem mono__law_round_free : MonoF S__law_round_free := fun avs hd Q Q' E E' w _ ⟨n, e, a, b, c, q⟩ => ⟨n, e, a, b, c, fun v hd' x y => w _ _ (q v hd' x y)⟩
theorem mono__law_with : MonoF S__law_with := fun avs hd Q Q' E E' w _ ⟨i, t, o, e, p, r, q⟩ => ⟨i, t, o, e, p, r, w _ _ q⟩
theorem mono_same (n : Nat) : MonoF (S_same n) := fun avs hd Q Q' E E' w _ ⟨i, e, p, q⟩ => ⟨i, e, p, w _ _ q⟩
end Lw
end
section
set_option Elab.async false
set_option linter.all false
set_option maxRecDepth 100000
set_option maxHeartbeats 4000000
open PySem PySem.Spec PyProof.Rows L2 PD
namespace Lw
structure Tight (st : List (List Nat)) (ts : List Nat) (i : Nat) (r : List Nat) : Prop where
  row : Row st r i
  sum : sm ts r = e_ st ts i
def cand (st : List (List Nat)) (ts : List Nat) (f : Nat → List Nat) (i : Nat) : List (List Nat) :=
  (((nds st i).filter fun x => decide (e_ st ts x = e_ st ts i - at0 ts i)).map fun x => f x ++ [i]) ++ (if e_ st ts i - at0 ts i = 0 then [[i]] else [])
def lstep (st : List (List Nat)) (ts : List Nat) (f : Nat → List Nat) (i : Nat) : Nat → List Nat := fun j => if j = i then mnL (cand st ts f i) else f j
def lrowOn (st : List (List Nat)) (ts o : List Nat) : Nat → List Nat := o.foldl (lstep st ts) (fun _ => [])
def lrow (st : List (List Nat)) (ts : List Nat) : Nat → List Nat := lrowOn st ts (ord st)
theorem sm_app (ts r : List Nat) (i : Nat) : sm ts (r ++ [i]) = sm ts r + at0 ts i := by simp [sm]
theorem Row.pre {st : List (List Nat)} (v : Ok st) {r r' : List Nat} {i : Nat} (h : Row st r i) (h' : Row st r' i) (p : r <+: r') : r = r' := by
  obtain ⟨s, e⟩ := p
  rcases List.eq_nil_or_concat s with z | ⟨s0, b, z⟩
  · rw [← e, z, List.append_nil]
  · exfalso
    rw [List.concat_eq_append] at z
    have l := h'.last.2.2.2
    rw [← e, z, ← List.append_assoc, List.getLast?_append] at l
    simp at l
    subst l
    have nd := h'.nodup v
    rw [← e] at nd
    exact (List.nodup_append.mp nd).2.2 b h.last.2.1 b (by rw [z]; simp) rfl
theorem e_ge {st : List (List Nat)} (v : Ok st) (ts : List Nat) {i : Nat} (hi : i < st.length) : at0 ts i ≤ e_ st ts i := by
  rw [e_eq v ts hi]; omega
theorem cand_ok {st : List (List Nat)} (v : Ok st) {ts : List Nat} {f : Nat → List Nat} {i : Nat} (hi : i < st.length) (hf : ∀ x ∈ nds st i, Least (Tight st ts x) (f x)) :
    Least (Tight st ts i) (mnL (cand st ts f i)) ∧ cand st ts f i ≠ [] := by
  have ge := e_ge v ts hi
  have sound : ∀ r ∈ cand st ts f i, Tight st ts i r := fun r hr => by
    rcases List.mem_append.mp hr with h | h
    · obtain ⟨x, hx, rfl⟩ := List.mem_map.mp h
      obtain ⟨h1, h2⟩ := List.mem_filter.mp hx
      have h2 : e_ st ts x = e_ st ts i - at0 ts i := by simpa using h2
      refine ⟨.more (hf x h1).mem.row hi h1, ?_⟩
      rw [sm_app, (hf x h1).mem.sum]; omega
    · split at h
      · rw [List.mem_singleton.mp h]
        exact ⟨.one hi, by simp [sm]; omega⟩
      · cases h
  have compl : ∀ r, Tight st ts i r → ∃ c ∈ cand st ts f i, lx r c = false := fun r ht => by
    have h1 := ht.row
    have h2 := ht.sum
    clear ht
    cases h1 with
    | one _ =>
      refine ⟨[i], List.mem_append_right _ ?_, lx_self _⟩
      simp [sm] at h2
      rw [if_pos (by omega)]; simp
    | @more r x _ h _ hx =>
      rw [sm_app] at h2
      have l1 := h.le v ts
      have l2 := e_eq v ts hi
      have l3 := mx_le ((nds st i).map (e_ st ts)) 0 (e_ st ts x) (.inr (.inl (List.mem_map.mpr ⟨x, hx, rfl⟩)))
      have t : Tight st ts x r := ⟨h, by omega⟩
      refine ⟨f x ++ [i], List.mem_append_left _ (List.mem_map.mpr ⟨x, List.mem_filter.mpr ⟨hx, by simp; omega⟩, rfl⟩), ?_⟩
      exact lx_app _ _ _ _ ((hf x hx).le r t) (fun p => ((hf x hx).mem.row.pre v h p)) fun _ => lx_self _
  have ne : cand st ts f i ≠ [] := by
    obtain ⟨r, h1, h2⟩ := Row.ex v ts i hi
    obtain ⟨c, hc, _⟩ := compl r ⟨h1, h2⟩
    exact List.ne_nil_of_mem hc
  obtain ⟨m1, m2⟩ := mnL_ok ne
  exact ⟨⟨sound _ m1, fun r hr => by
    obtain ⟨c, c1, c2⟩ := compl r hr
    exact lx_down (m2 c c1) c2⟩, ne⟩
theorem lrow_ok {st : List (List Nat)} (v : Ok st) (ts : List Nat) : ∀ k, k ≤ st.length → ∀ i ∈ ordN st k, Least (Tight st ts i) (lrowOn st ts (ordN st k) i)
  | 0, _, i, h => nomatch h
  | k + 1, hk, i, h => by
    obtain ⟨a, ea, fa⟩ := v.next (show k < st.length by omega)
    have ih := lrow_ok v ts k (by omega)
    obtain ⟨f1, f2, f3⟩ := free_mem fa
    have es : lrowOn st ts (ordN st (k + 1)) = lstep st ts (lrowOn st ts (ordN st k)) a := by
      rw [ea, lrowOn, List.foldl_append]; rfl
    rw [es]
    rw [ea] at h
    unfold lstep
    by_cases e : i = a
    · rw [if_pos e, e]
      exact (cand_ok v f1 fun x hx => ih x (f3 x hx)).1
    · rw [if_neg e]
      rcases List.mem_append.mp h with q | q
      · exact ih i q
      · exact absurd (List.mem_singleton.mp q) e
structure IsLong (st : List (List Nat)) (ts r : List Nat) : Prop where
  row : ∃ k, Row st r k ∧ e_ st ts k = gr (ends st ts)
  sum : sm ts r = gr (ends st ts)
def lastOnes (st : List (List Nat)) (ts : List Nat) : List Nat := (List.range st.length).filter fun i => decide (e_ st ts i = gr (ends st ts))
def long (st : List (List Nat)) (ts : List Nat) : List Nat := mnL ((lastOnes st ts).map (lrow st ts))
theorem lastOnes_ne {st : List (List Nat)} (v : Ok st) (ts : List Nat) : lastOnes st ts ≠ [] := by
  obtain ⟨r, k, h1, h2⟩ := gr_row v ts
  have a := h1.le v ts
  have b := le_gr (e_mem (ts := ts) h1.last.1)
  exact List.ne_nil_of_mem (a := k) (List.mem_filter.mpr ⟨List.mem_range.mpr h1.last.1, by simp; omega⟩)
theorem long_ok {st : List (List Nat)} (v : Ok st) (ts : List Nat) : Least (IsLong st ts) (long st ts) := by
  have lr : ∀ i, i < st.length → Least (Tight st ts i) (lrow st ts i) := fun i hi => lrow_ok v ts st.length (Nat.le_refl _) i ((ord_all v).2.2.2 i hi)
  obtain ⟨m1, m2⟩ := mnL_ok (l := (lastOnes st ts).map (lrow st ts)) (by simpa using lastOnes_ne v ts)
  refine ⟨?_, fun r ⟨⟨k, h1, h2⟩, h3⟩ => ?_⟩
  · obtain ⟨i, hi, e⟩ := List.mem_map.mp m1
    obtain ⟨h1, h2⟩ := List.mem_filter.mp hi
    have h2 : e_ st ts i = gr (ends st ts) := by simpa using h2
    obtain ⟨t1, t2⟩ := (lr i (List.mem_range.mp h1)).mem
    show IsLong st ts (mnL _)
    rw [← e]
    exact ⟨⟨i, t1, h2⟩, by rw [t2, h2]⟩
  · refine lx_down (m2 _ (List.mem_map.mpr ⟨k, List.mem_filter.mpr ⟨List.mem_range.mpr h1.last.1, by simpa using h2⟩, rfl⟩)) ?_
    exact (lr k h1.last.1).le r ⟨h1, by rw [h3, h2]⟩
end Lw
end
section
set_option Elab.async false
set_option linter.all false
set_option maxRecDepth 100000
set_option maxHeartbeats 4000000
open PySem PySem.Spec PyProof.Rows L2 PD
namespace Lw
theorem ends_ix {st : List (List Nat)} (ts : List Nat) {a : Nat} (h : a < st.length) : ixD (.list ((ends st ts).map nD)) (nD a) = some (nD (e_ st ts a)) := ix_nL (l := ends st ts) (by rw [ends_len]; exact h)
theorem sub_nD {m n : Nat} (h : n ≤ m) : subD (nD m) (nD n) = some (nD (m - n)) := by
  show some (PyData.int ((m : Int) - (n : Int))) = some (.int ((m - n : Nat) : Int))
  rw [show (m : Int) - (n : Int) = ((m - n : Nat) : Int) by omega]
theorem eq_nD (m n : Nat) : eqD (nD m) (nD n) = some (.bool (decide (m = n))) := by
  rw [nD, nD, eqD_int]
  by_cases h : m = n
  · rw [decide_eq_true h, decide_eq_true (by omega)]
  · rw [decide_eq_false h, decide_eq_false (by omega)]
theorem app_nT {l m : List Nat} (h : l.length + m.length ≤ 1000) : addD (.tuple (l.map nD)) (.tuple (m.map nD)) = some (nT (l ++ m)) := by
  show (if _ then _ else _) = _
  rw [if_pos (by simp only [List.length_map, sizeLine]; omega), nT, List.map_append]
theorem app_list {l m : List PyData} (h : l.length + m.length ≤ 10000) : addD (.list l) (.list m) = some (.list (l ++ m)) := by
  show (if _ then _ else _) = _
  rw [if_pos (by simp only [sizeLine]; omega)]
theorem row_len {st : List (List Nat)} (v : Ok st) {r : List Nat} {k : Nat} (h : Row st r k) : r.length ≤ 10 := by
  obtain ⟨rk, hrk⟩ := v.rank
  have := (h.nodup v).length_le_of_subset (l₂ := List.range st.length) fun x hx => List.mem_range.mpr ((h.rank hrk).1 x hx).1
  have := v.n2
  simp at *
  omega
def S_rows_to : FSpec := fun avs hd Q E => ∃ st ts, avs = [.d (stD st), .d (nT ts), .d (nL (ends st ts))] ∧ Ok st ∧ ts.length = st.length ∧ Q (dicD false (dN (ord st) fun i => nT (lrow st ts i))) hd
theorem rd_rows_to (avs hd Q E) (h : S_rows_to avs hd Q E) : t_rows_to S_least_order (fnEnds false Q) ⟨initG ["stages", "times", "ends", "found", "number", "begin", "rows", "need"] avs, hd⟩ := by
  obtain ⟨st, ts, rfl, v, ht, q⟩ := h
  have h2 := v.n2
  obtain ⟨o1, ho, o3, o4⟩ := ord_all v
  simp only [t_rows_to]
  simp [stD, nT, nL, S_least_order, and_assoc]
  refine ⟨st, rfl, v, ?_⟩
  refine fRun_inv (fun k s => ∃ S4 S5 S6, s = ⟨[.v (.tuple (st.map nT)), .v (.tuple (ts.map nD)), .v (.list ((ends st ts).map nD)), .m (dicD false (dN (ordN st k) fun i => nT (lrowOn st ts (ordN st k) i))), S4, S5, S6, .no], hd⟩) ?_ ?_ ⟨.no, .no, .no, rfl⟩
  · rintro k d s N hd' ⟨S4, S5, S6, rfl⟩ hN
    have hk : k < (ord st).length := by simpa using (List.getElem?_eq_some_iff.mp hd').1
    have ed : d = nD (ord st)[k] := by
      rw [List.getElem?_map, List.getElem?_eq_getElem hk] at hd'
      exact (Option.some.inj hd').symm
    subst ed
    have hk2 : k < st.length := by omega
    obtain ⟨a, ea, fa⟩ := v.next hk2
    have ok := v.ord k (by omega)
    have eo : (ord st)[k] = a := by
      have pre : ∀ m, ∃ s, ordN st (k + 1 + m) = ordN st (k + 1) ++ s := fun m => by
        induction m with
        | zero => exact ⟨[], (List.append_nil _).symm⟩
        | succ m ih =>
          obtain ⟨s, es⟩ := ih
          exact ⟨s ++ (free st (ordN st (k + 1 + m))).take 1, by rw [← List.append_assoc, ← es]; rfl⟩
      obtain ⟨s, es⟩ := pre (st.length - (k + 1))
      rw [show k + 1 + (st.length - (k + 1)) = st.length by omega] at es
      have es : ord st = ordN st (k + 1) ++ s := es
      have : (ord st)[k]? = some a := by
        rw [es, ea, List.append_assoc, List.getElem?_append_right (by rw [ok.len]; exact Nat.le_refl _), ok.len]
        simp
      rw [List.getElem?_eq_getElem hk] at this
      exact Option.some.inj this
    rw [eo]
    obtain ⟨f1, f2, f3⟩ := free_mem fa
    have lo := lrow_ok v ts k (by omega)
    have es : lrowOn st ts (ordN st (k + 1)) = lstep st ts (lrowOn st ts (ordN st k)) a := by
      rw [ea, lrowOn, List.foldl_append]; rfl
    rw [es, ea] at hN
    have cn := (cand_ok v f1 fun x hx => lo x (f3 x hx)).2
    have lsame : ∀ x ∈ ordN st k, lstep st ts (lrowOn st ts (ordN st k)) a x = lrowOn st ts (ordN st k) x := fun x hx => by
      unfold lstep
      rw [if_neg fun z => f2 (by rw [← z]; exact hx)]
    have lnew : lstep st ts (lrowOn st ts (ordN st k)) a a = mnL (cand st ts (lrowOn st ts (ordN st k)) a) := by
      unfold lstep; rw [if_pos rfl]
    generalize lstep st ts (lrowOn st ts (ordN st k)) a = g at hN lsame lnew
    have fl : ∀ x ∈ ordN st k, (lrowOn st ts (ordN st k) x).length ≤ 10 := fun x hx => row_len v (lo x hx).mem.row
    generalize lrowOn st ts (ordN st k) = f at lsame lnew cn fl
    have ge := e_ge v ts f1
    simp [ix_st f1, ends_ix ts f1, ix_nT (l := ts) (a := a) (by omega), sub_nD ge, nT]
    have hn := v.nds_len a
    refine ⟨by simp [sizeLine]; omega, cRun_if _ (fun x => decide (e_ st ts x = e_ st ts a - at0 ts a)) (fun x => nT (f x ++ [a])) _ (fun x hx Y M y n => ?_) _ _ ?_⟩
    · have hx2 := f3 x hx
      have e9 : addD (.tuple ((f x).map nD)) (.tuple [nD a]) = some (nT (f x ++ [a])) := app_nT (m := [a]) (by have := fl x hx2; simp; omega)
      simp [ends_ix ts (v.nds_lt hx), eq_nD]
      by_cases c : e_ st ts x = e_ st ts a - at0 ts a
      · simp [c, ix_dN hx2, sizeLine, e9] at y ⊢
        exact y
      · simp [c] at n ⊢
        exact n
    · have eI : eqD (nD (e_ st ts a - at0 ts a)) (.int 0) = some (.bool (decide (e_ st ts a - at0 ts a = 0))) := eq_nD _ 0
      simp [eI, sizeLine]
      have fl2 := List.length_filter_le (fun x => decide (e_ st ts x = e_ st ts a - at0 ts a)) (nds st a)
      have eM : mulD (.list [.tuple [nD a]]) (.int (if e_ st ts a - at0 ts a = 0 then 1 else 0)) = some (.list ((if e_ st ts a - at0 ts a = 0 then [[a]] else []).map nT)) := by
        by_cases c : e_ st ts a - at0 ts a = 0
        · rw [if_pos c, if_pos c]; rfl
        · rw [if_neg c, if_neg c]; rfl
      have eA : addD (.list (((nds st a).filter fun x => decide (e_ st ts x = e_ st ts a - at0 ts a)).map fun x => nT (f x ++ [a]))) (.list ((if e_ st ts a - at0 ts a = 0 then [[a]] else []).map nT)) = some (.list ((cand st ts f a).map nT)) := by
        rw [app_list]
        · unfold cand; rw [List.map_append, List.map_map]; rfl
        · rw [List.length_map, List.length_map]
          have : (if e_ st ts a - at0 ts a = 0 then [[a]] else []).length ≤ 1 := by split <;> simp
          omega
      have eD : dN (ordN st k) (fun i => nT (f i)) ++ [(nD a, nT (mnL (cand st ts f a)))] = dN (ordN st k ++ [a]) (fun i => nT (g i)) := by
        unfold dN
        rw [List.map_append, ← lnew]
        congr 1
        exact List.map_congr_left fun x hx => by show (nD x, nT (f x)) = (nD x, nT (g x)); rw [lsame x hx]
      have eI2 := ins_dN (f := fun i => nT (f i)) (d := nT (mnL (cand st ts f a))) f2
      rw [eD] at eI2
      refine ⟨_, eM, _, eA, _, minOf_nT cn, ?_⟩
      show keyFits false (nD a) = true ∧ (dN (ordN st k) fun i => nT (f i)).length < sizeLine ∧ N ⟨[_, _, _, .m (dicD false (insD (nD a) (nT (mnL (cand st ts f a))) (dN (ordN st k) fun i => nT (f i)))), _, _, _, _], hd⟩
      rw [eI2]
      exact ⟨rfl, by simp [dN, ok.len, sizeLine]; omega, hN _ ⟨_, _, _, rfl⟩⟩
  · rintro s ⟨S4, S5, S6, rfl⟩
    simp [o3]
    exact q
end Lw
end
section
set_option Elab.async false
set_option linter.all false
set_option maxRecDepth 100000
set_option maxHeartbeats 4000000
open PySem PySem.Spec PyProof.Rows L2 PD
namespace Lw
def S_longest_row : FSpec := fun avs hd Q E => ∃ st ts, avs = [.d (stD st), .d (nT ts)] ∧ Ok st ∧ ts.length = st.length ∧ (∀ x ∈ ts, x ≤ 100) ∧ Q (.tuple [nD (gr (ends st ts)), nT (long st ts)]) hd
theorem rd_longest_row (avs hd Q E) (h : S_longest_row avs hd Q E) : t_longest_row S_check_times S_raw_ends S_rows_to (fnEnds false Q) ⟨initG ["stages", "times", "order", "ends", "rows", "number"] avs, hd⟩ := by
  obtain ⟨st, ts, rfl, v, ht, hx, q⟩ := h
  have h2 := v.n2
  simp only [t_longest_row]
  simp [S_check_times, S_raw_ends, S_rows_to, and_assoc]
  refine ⟨st, rfl, ts, rfl, v, ht, hx, st, rfl, ts, rfl, ord st, rfl, v, ht, (ord_all v).2.1, ?_⟩
  have e1 : nL (endsOn st ts (ord st)) = .list ((ends st ts).map nD) := rfl
  have e2 : nL (ends st ts) = .list ((ends st ts).map nD) := rfl
  refine ⟨st, rfl, ts, rfl, e1.trans e2.symm, v, ht, ?_⟩
  rw [e1]
  refine ⟨_, maxOf_gr (ends_ne v ts), ?_⟩
  simp [stD]
  refine ⟨by omega, ?_⟩
  rw [rng_nat]
  refine ⟨by simp [sizeLine]; omega, cRun_if _ (fun x => decide (e_ st ts x = gr (ends st ts))) (fun x => nT (lrow st ts x)) _ (fun x hx Y M y n => ?_) _ _ ?_⟩
  · have hx := List.mem_range.mp hx
    simp [ends_ix ts hx, maxOf_gr (ends_ne v ts), eq_nD]
    by_cases c : e_ st ts x = gr (ends st ts)
    · simp [c, ix_dN ((ord_all v).2.2.2 x hx)] at y ⊢
      exact y
    · simp [c] at n ⊢
      exact n
  · have m1 : ((List.range st.length).filter fun x => decide (e_ st ts x = gr (ends st ts))).map (fun x => nT (lrow st ts x)) = ((lastOnes st ts).map (lrow st ts)).map nT := by rw [List.map_map]; rfl
    rw [List.nil_append, m1]
    exact ⟨_, minOf_nT (by simpa using lastOnes_ne v ts), by simp [sizeLine], q⟩
theorem mono_rows_to : MonoF S_rows_to := fun avs hd Q Q' E E' w _ ⟨i, t, e, p, r, q⟩ => ⟨i, t, e, p, r, w _ _ q⟩
theorem mono_longest_row : MonoF S_longest_row := fun avs hd Q Q' E E' w _ ⟨i, t, e, p, r, x, q⟩ => ⟨i, t, e, p, r, x, w _ _ q⟩
end Lw
end
section
set_option Elab.async false
set_option linter.all false
set_option maxRecDepth 100000
set_option maxHeartbeats 4000000
open PySem PySem.Spec PyProof.Rows L2 PD
namespace Lw
theorem sum_pow : ∀ (q : Nat) (L : List Nat), L.Nodup → (∀ x ∈ L, x < q) → (L.map (2 ^ ·)).sum < 2 ^ q
  | 0, [], _, _ => by simp
  | 0, x :: L, _, h => absurd (h x List.mem_cons_self) (Nat.not_lt_zero _)
  | q + 1, L, nd, h => by
    by_cases m : q ∈ L
    · have p := List.perm_cons_erase m
      have e : (L.map (2 ^ ·)).sum = ((q :: L.erase q).map (2 ^ ·)).sum := (p.map _).sum_nat
      rw [e, List.map_cons, List.sum_cons]
      have ih := sum_pow q (L.erase q) (nd.erase q) fun x hx => by
        have h1 := h x (List.mem_of_mem_erase hx)
        have h2 : x ≠ q := fun z => by rw [z] at hx; exact nd.not_mem_erase hx
        omega
      rw [Nat.pow_succ]
      omega
    · have ih := sum_pow q L nd fun x hx => by
        have h1 := h x hx
        have h2 : x ≠ q := fun z => m (by rw [← z]; exact hx)
        omega
      rw [Nat.pow_succ]
      omega
def pw (st : List (List Nat)) (i : Nat) : Nat := 2 ^ (st.length - (ord st).idxOf i)
def lastN (r : List Nat) : Nat := r.getLast?.getD 0
def mass (st : List (List Nat)) (l : List (List Nat)) : Nat := (l.map fun r => pw st (lastN r)).sum
theorem lastN_app (r : List Nat) (i : Nat) : lastN (r ++ [i]) = i := by simp [lastN]
theorem Row.lastN {st : List (List Nat)} {r : List Nat} {i : Nat} (h : Row st r i) : lastN r = i := by
  unfold Lw.lastN; rw [h.last.2.2.2]; rfl
def kids (st : List (List Nat)) (r : List Nat) : List (List Nat) := ((List.range st.length).filter fun i => decide (lastN r ∈ nds st i)).map fun i => r ++ [i]
theorem kids_mass {st : List (List Nat)} (v : Ok st) {r : List Nat} (hr : lastN r < st.length) : mass st (kids st r) < pw st (lastN r) := by
  obtain ⟨nd, lt, len, all⟩ := ord_all v
  have e : mass st (kids st r) = ((((List.range st.length).filter fun i => decide (lastN r ∈ nds st i)).map fun i => st.length - (ord st).idxOf i).map (2 ^ ·)).sum := by
    unfold mass kids
    rw [List.map_map, List.map_map]
    congr 1
    exact List.map_congr_left fun i _ => by show pw st (lastN (r ++ [i])) = _; rw [lastN_app]; rfl
  rw [e]
  have ix : ∀ i, i < st.length → (ord st).idxOf i < st.length := fun i hi => by
    have := List.idxOf_lt_length_of_mem (all i hi)
    omega
  refine sum_pow _ _ ?_ fun x hx => ?_
  · refine List.Pairwise.map _ ?_ ((List.nodup_range (n := st.length)).filter _ |>.imp_of_mem (S := fun a b => a < st.length ∧ b < st.length ∧ a ≠ b) fun {a b} ha hb h => ⟨List.mem_range.mp (List.mem_filter.mp ha).1, List.mem_range.mp (List.mem_filter.mp hb).1, h⟩)
    rintro a b ⟨ha, hb, h⟩ z
    have h1 := ix a ha
    have h2 := ix b hb
    have : (ord st).idxOf a = (ord st).idxOf b := by omega
    apply h
    have ea : (ord st)[(ord st).idxOf a]'(by omega) = a := List.getElem_idxOf _
    have eb : (ord st)[(ord st).idxOf b]'(by omega) = b := List.getElem_idxOf _
    exact ea.symm.trans (Eq.trans (by simp only [this]) eb)
  · obtain ⟨i, hi, rfl⟩ := List.mem_map.mp hx
    obtain ⟨h1, h2⟩ := List.mem_filter.mp hi
    have h1 := List.mem_range.mp h1
    have h3 := ord_lt v h1 (by simpa using h2)
    have := ix i h1
    omega
structure RowsInv (st : List (List Nat)) (F L : List (List Nat)) : Prop where
  sound : ∀ r, r ∈ F ∨ r ∈ L → ∃ k, Row st r k
  one : ∀ i, i < st.length → [i] ∈ F ∨ [i] ∈ L
  more : ∀ r ∈ F, ∀ x i, Row st r x → i < st.length → x ∈ nds st i → r ++ [i] ∈ F ∨ r ++ [i] ∈ L
  few : F.length + mass st L ≤ 2048
theorem mass_app (st : List (List Nat)) (l m : List (List Nat)) : mass st (l ++ m) = mass st l + mass st m := by simp [mass]
theorem pw_pos (st : List (List Nat)) (i : Nat) : 0 < pw st i := Nat.pow_pos (by decide)
theorem mass_len (st : List (List Nat)) : ∀ l : List (List Nat), l.length ≤ mass st l
  | [] => Nat.zero_le _
  | r :: l => by
    have := mass_len st l
    have := pw_pos st (lastN r)
    show l.length + 1 ≤ (List.map _ (r :: l)).sum
    rw [List.map_cons, List.sum_cons]
    unfold mass at *
    omega
theorem RowsInv.start {st : List (List Nat)} (v : Ok st) : RowsInv st [] ((List.range st.length).map fun i => [i]) := by
  obtain ⟨nd, lt, len, all⟩ := ord_all v
  refine ⟨fun r hr => ?_, fun i hi => .inr (List.mem_map.mpr ⟨i, List.mem_range.mpr hi, rfl⟩), (fun r h => nomatch h), ?_⟩
  · rcases hr with h | h
    · cases h
    · obtain ⟨i, hi, rfl⟩ := List.mem_map.mp h
      exact ⟨i, .one (List.mem_range.mp hi)⟩
  · have e : mass st ((List.range st.length).map fun i => [i]) = (((List.range st.length).map fun i => st.length - (ord st).idxOf i).map (2 ^ ·)).sum := by
      unfold mass
      rw [List.map_map, List.map_map]
      rfl
    have ix : ∀ i, i < st.length → (ord st).idxOf i < st.length := fun i hi => by
      have := List.idxOf_lt_length_of_mem (all i hi)
      omega
    have h := sum_pow (st.length + 1) ((List.range st.length).map fun i => st.length - (ord st).idxOf i) (by
      refine List.Pairwise.map _ ?_ ((List.nodup_range (n := st.length)).imp_of_mem (S := fun a b => a < st.length ∧ b < st.length ∧ a ≠ b) fun {a b} ha hb h => ⟨List.mem_range.mp ha, List.mem_range.mp hb, h⟩)
      rintro a b ⟨ha, hb, h⟩ z
      have h1 := ix a ha
      have h2 := ix b hb
      have : (ord st).idxOf a = (ord st).idxOf b := by omega
      apply h
      have ea : (ord st)[(ord st).idxOf a]'(by omega) = a := List.getElem_idxOf _
      have eb : (ord st)[(ord st).idxOf b]'(by omega) = b := List.getElem_idxOf _
      exact ea.symm.trans (Eq.trans (by simp only [this]) eb)) fun x hx => by
        obtain ⟨i, hi, rfl⟩ := List.mem_map.mp hx
        omega
    rw [e]
    have p : 2 ^ (st.length + 1) ≤ 2 ^ 11 := Nat.pow_le_pow_right (by decide) (by have := v.n2; omega)
    simp only [List.length_nil]
    omega
theorem RowsInv.step {st : List (List Nat)} (v : Ok st) {F L : List (List Nat)} {row : List Nat} (h : RowsInv st F (L ++ [row])) : RowsInv st (F ++ [row]) (L ++ kids st row) ∧ mass st (L ++ kids st row) < mass st (L ++ [row]) := by
  obtain ⟨k, hk⟩ := h.sound row (.inr (by simp))
  have km := kids_mass v (r := row) (by rw [hk.lastN]; exact hk.last.1)
  have m1 : mass st [row] = pw st (lastN row) := by simp [mass]
  have mv : ∀ r, r ∈ F ∨ r ∈ L ++ [row] → r ∈ F ++ [row] ∨ r ∈ L ++ kids st row := fun r hr => by
    rcases hr with q | q
    · exact .inl (List.mem_append_left _ q)
    · rcases List.mem_append.mp q with q | q
      · exact .inr (List.mem_append_left _ q)
      · exact .inl (List.mem_append_right _ q)
  refine ⟨⟨fun r hr => ?_, fun i hi => mv _ (h.one i hi), fun r hr x i hx hi hn => ?_, ?_⟩, ?_⟩
  · rcases hr with q | q
    · rcases List.mem_append.mp q with q | q
      · exact h.sound r (.inl q)
      · exact h.sound r (.inr (List.mem_append_right _ q))
    · rcases List.mem_append.mp q with q | q
      · exact h.sound r (.inr (List.mem_append_left _ q))
      · obtain ⟨i, hi, rfl⟩ := List.mem_map.mp q
        obtain ⟨h1, h2⟩ := List.mem_filter.mp hi
        exact ⟨i, .more hk (List.mem_range.mp h1) (by have h2 : lastN row ∈ nds st i := by simpa using h2
                                                      rw [hk.lastN] at h2; exact h2)⟩
  · rcases List.mem_append.mp hr with q | q
    · exact mv _ (h.more r q x i hx hi hn)
    · have q := List.mem_singleton.mp q
      subst q
      refine .inr (List.mem_append_right _ (List.mem_map.mpr ⟨i, List.mem_filter.mpr ⟨List.mem_range.mpr hi, ?_⟩, rfl⟩))
      rw [hx.lastN]; simpa using hn
  · have := h.few
    rw [mass_app, m1] at this
    rw [mass_app, List.length_append]
    simp only [List.length_cons, List.length_nil]
    omega
  · rw [mass_app, mass_app, m1]
    omega
theorem RowsInv.all {st : List (List Nat)} {F : List (List Nat)} (h : RowsInv st F []) (r : List Nat) : r ∈ F ↔ ∃ k, Row st r k := by
  refine ⟨fun hr => h.sound r (.inl hr), ?_⟩
  rintro ⟨k, hk⟩
  induction hk with
  | one hi => exact (h.one _ hi).resolve_right (fun z => nomatch z)
  | more hr hi hx ih => exact (h.more _ ih _ _ hr hi hx).resolve_right (fun z => nomatch z)
def S__law_rows : FSpec := fun avs hd Q E => ∃ st, avs = [.d (stD st)] ∧ Ok st ∧ ∀ F : List (List Nat), (∀ r, r ∈ F ↔ ∃ k, Row st r k) → F.length ≤ 2048 → Q (.list (F.map nT)) hd
def rowOf : PyData → List Nat
  | .tuple ds => ds.map unD
  | _ => []
def left3 (st : List (List Nat)) (s : PSt) : Nat := match s.G[2]? with
  | some (Sl.m (.list l)) => mass st (l.map rowOf)
  | _ => 0
theorem left3_of {st L G} (h : G[2]? = some (Sl.m (.list (L.map nT)))) (hd) : left3 st ⟨G, hd⟩ = mass st L := by
  unfold left3
  show (match G[2]? with | some (Sl.m (.list l)) => mass st (l.map rowOf) | _ => 0) = _
  rw [h]
  show mass st ((L.map nT).map _) = _
  rw [List.map_map]
  congr 1
  conv => rhs; rw [← List.map_id L]
  refine List.map_congr_left fun r _ => ?_
  show (r.map nD).map unD = r
  rw [List.map_map]
  conv => rhs; rw [← List.map_id r]
  exact List.map_congr_left fun x _ => unD_nD x
theorem ix_last {r : List Nat} {k : Nat} (h : r.getLast? = some k) : ixD (.tuple (r.map nD)) (.int (-1)) = some (nD k) := by
  have ne : r ≠ [] := fun e => by rw [e] at h; cases h
  have l := List.length_pos_iff.mpr ne
  show L2.atI (r.map nD) (-1) = _
  unfold L2.atI ixN
  rw [List.length_map, if_neg (by omega), if_pos (by omega)]
  show (r.map nD)[((-1 : Int) + (r.length : Int)).toNat]? = _
  rw [show ((-1 : Int) + (r.length : Int)).toNat = r.length - 1 by omega, List.getElem?_map, ← List.getLast?_eq_getElem?, h]
  rfl
theorem rd__law_rows (avs hd Q E) (h : S__law_rows avs hd Q E) : t__law_rows (fnEnds false Q) ⟨initG ["some", "found", "line", "one", "row"] avs, hd⟩ := by
  obtain ⟨st, rfl, v, q⟩ := h
  have h2 := v.n2
  simp only [t__law_rows]
  simp [stD, and_assoc]
  refine ⟨by omega, ?_⟩
  rw [rng_nat]
  refine ⟨by simp [sizeLine]; omega, cRun_of _ (fun x => nT [x]) _ (fun x hx Y y => by simpa [nT, sizeLine] using y) _ _ ?_⟩
  have m1 : (List.range st.length).map (fun x => nT [x]) = ((List.range st.length).map fun i => [i]).map nT := by rw [List.map_map]; rfl
  rw [List.nil_append, m1]
  refine tWh_inv (fun s => ∃ F L S4, RowsInv st F L ∧ s = ⟨[.v (.tuple (st.map nT)), .m (.list (F.map nT)), .m (.list (L.map nT)), .no, S4], hd⟩) (left3 st) ⟨[], _, _, .start v, rfl⟩ ?_
  rintro s N ⟨F, L, S4, hI, rfl⟩ hN
  rw [left3_of rfl] at hN
  rcases List.eq_nil_or_concat L with e | ⟨L0, row, e⟩
  · subst e
    simp
    exact q F hI.all (Nat.le_trans (Nat.le_add_right _ _) hI.few)
  · rw [List.concat_eq_append] at e
    subst e
    obtain ⟨hS, lt⟩ := hI.step v
    obtain ⟨k, hk⟩ := hI.sound row (.inr (by simp))
    have hl := row_len v hk
    have ms := hI.few
    have ms2 := hS.few
    have ln := mass_len st (L0 ++ kids st row)
    rw [List.length_append] at ln
    have e1 : ((L0 ++ [row]).map nT)[((L0 ++ [row]).map nT).length - 1]? = some (nT row) := by simp
    simp [and_assoc]
    refine ⟨by simp [sizeLine]; omega, by omega, ?_⟩
    rw [rng_nat]
    refine ⟨by simp [sizeLine]; omega, cRun_if _ (fun i => decide (lastN row ∈ nds st i)) (fun i => nT (row ++ [i])) _ (fun x hx Y M y n => ?_) _ _ ?_⟩
    · have hx := List.mem_range.mp hx
      have e9 : addD (.tuple (row.map nD)) (.tuple [nD x]) = some (nT (row ++ [x])) := app_nT (m := [x]) (by simp; omega)
      simp [nT, ix_last hk.last.2.2.2, ix_st hx]
      rw [hk.lastN] at y n
      by_cases c : k ∈ nds st x
      · simp [c, sizeLine, e9] at y ⊢
        exact y
      · simp [c] at n ⊢
        exact n
    · have m2 : ((List.range st.length).filter fun i => decide (lastN row ∈ nds st i)).map (fun i => nT (row ++ [i])) = (kids st row).map nT := by unfold kids; rw [List.map_map]; rfl
      rw [List.nil_append, m2]
      simp
      refine ⟨by simp [sizeLine]; omega, hN _ ⟨F ++ [row], L0 ++ kids st row, .v (nT row), hS, by simp⟩ ?_⟩
      rw [left3_of (L := L0 ++ kids st row) (by simp)]
      exact lt
theorem mono__law_rows : MonoF S__law_rows := fun avs hd Q Q' E E' w _ ⟨i, e, p, q⟩ => ⟨i, e, p, fun F a b => w _ _ (q F a b)⟩
end Lw
end
section
set_option Elab.async false
set_option linter.all false
set_option maxRecDepth 100000
set_option maxHeartbeats 4000000
open PySem PySem.Spec PyProof.Rows L2 PD
namespace Lw
def isL (st : List (List Nat)) (ts r : List Nat) : Bool := decide (e_ st ts (lastN r) = gr (ends st ts)) && decide (sm ts r = gr (ends st ts))
theorem isL_iff {st : List (List Nat)} {ts r : List Nat} (h : ∃ k, Row st r k) : isL st ts r = true ↔ IsLong st ts r := by
  obtain ⟨k, hk⟩ := h
  unfold isL
  rw [Bool.and_eq_true, decide_eq_true_eq, decide_eq_true_eq, hk.lastN]
  refine ⟨fun ⟨a, b⟩ => ⟨⟨k, hk, a⟩, b⟩, fun ⟨⟨k2, a, b⟩, c⟩ => ⟨?_, c⟩⟩
  have := hk.lastN
  rw [a.lastN] at this
  rw [← this]; exact b
theorem long_min {st : List (List Nat)} (v : Ok st) (ts : List Nat) {F : List (List Nat)} (hF : ∀ r, r ∈ F ↔ ∃ k, Row st r k) : F.filter (isL st ts) ≠ [] ∧ mnL (F.filter (isL st ts)) = long st ts := by
  have m : ∀ r, r ∈ F.filter (isL st ts) ↔ IsLong st ts r := fun r => by
    rw [List.mem_filter]
    refine ⟨fun ⟨a, b⟩ => (isL_iff ((hF r).mp a)).mp b, fun h => ?_⟩
    have e : ∃ k, Row st r k := by obtain ⟨k, a, _⟩ := h.row; exact ⟨k, a⟩
    exact ⟨(hF r).mpr e, (isL_iff e).mpr h⟩
  have lo := long_ok v ts
  have ne : F.filter (isL st ts) ≠ [] := List.ne_nil_of_mem ((m _).mpr lo.mem)
  obtain ⟨m1, m2⟩ := mnL_ok ne
  exact ⟨ne, Least.uniq ⟨(m _).mp m1, fun r hr => m2 r ((m r).mpr hr)⟩ lo⟩
theorem sum_nD (l : List Nat) : sumD [.list (l.map nD)] = some (nD l.sum) := by
  have go : ∀ l : List Nat, intsOf (l.map nD) = some (l.map Int.ofNat) := fun l => by
    induction l with
    | nil => rfl
    | cons x l ih => 
      rw [List.map_cons, List.map_cons]
      simp [intsOf, nD] at ih ⊢
      simpa using ih
  have gs : ∀ l : List Nat, (l.map Int.ofNat).sum = ((l.sum : Nat) : Int) := fun l => by
    induction l with
    | nil => rfl
    | cons x l ih => rw [List.map_cons, List.sum_cons, List.sum_cons, ih]; exact (Int.natCast_add _ _).symm
  show (intsOf (l.map nD)).map _ = _
  rw [go, Option.map_some, gs]
  rfl
def slN (st : List (List Nat)) (ts : List Nat) : List Nat := ((low st ts (gr (ends st ts))).zip (ends st ts)).map fun p => (p.1 - (p.2 : Int)).toNat
theorem slN_len {st : List (List Nat)} (v : Ok st) (ts : List Nat) : (slN st ts).length = st.length := by
  have h1 := (low_ok v ts (gr (ends st ts))).len
  have h2 := ends_len st ts
  simp [slN]; omega
theorem at_slN {st : List (List Nat)} (v : Ok st) (ts : List Nat) {i : Nat} (hi : i < st.length) : at0 (slN st ts) i = (atz (low st ts (gr (ends st ts))) i - e_ st ts i).toNat := by
  have h1 := (low_ok v ts (gr (ends st ts))).len
  have h2 := ends_len st ts
  have l1 : i < (low st ts (gr (ends st ts))).length := by omega
  have l2 : i < (ends st ts).length := by omega
  simp [at0, slN, atz, e_, List.getD_eq_getElem?_getD, l1, l2, hi, List.getElem?_zip_eq_some, List.zip, List.getElem?_zipWith]
theorem slackD_nD {st : List (List Nat)} (v : Ok st) {ts : List Nat} (ht : ts.length = st.length) : slackD st ts = (slN st ts).map nD := by
  have h1 := (low_ok v ts (gr (ends st ts))).len
  have h2 := ends_len st ts
  unfold slackD slN
  rw [List.map_map]
  refine List.map_congr_left fun p hp => ?_
  obtain ⟨i, hi, e⟩ := List.mem_iff_getElem.mp hp
  have hi2 : i < st.length := by simp at hi; omega
  obtain ⟨s, es, _, _⟩ := slack_ok v ht (low_ok v ts (gr (ends st ts))) hi2
  have e1 : p.1 = atz (low st ts (gr (ends st ts))) i := by rw [← e]; simp [atz, List.getD_eq_getElem?_getD, h1, hi2]
  have e2 : p.2 = e_ st ts i := by rw [← e]; simp [e_, at0, List.getD_eq_getElem?_getD, h2, hi2]
  show PyData.int _ = PyData.int (((p.1 - (p.2 : Int)).toNat : Nat) : Int)
  rw [e1, e2]
  congr 1
  omega
theorem slN_ok {st : List (List Nat)} (v : Ok st) {ts : List Nat} (ht : ts.length = st.length) {i : Nat} (hi : i < st.length) :
    gr (ends st (ts.set i (at0 ts i + at0 (slN st ts) i))) = gr (ends st ts) ∧ gr (ends st ts) < gr (ends st (ts.set i (at0 ts i + (at0 (slN st ts) i + 1)))) := by
  obtain ⟨s, es, h1, h2⟩ := slack_ok v ht (low_ok v ts (gr (ends st ts))) hi
  rw [at_slN v ts hi, es]
  exact ⟨h1, h2⟩
theorem slN_row {st : List (List Nat)} (v : Ok st) {ts : List Nat} {r : List Nat} (h : IsLong st ts r) {i : Nat} (hi : i ∈ r) : at0 (slN st ts) i = 0 ∧ i < st.length := by
  obtain ⟨k, hk, _⟩ := h.row
  obtain ⟨rk, hrk⟩ := v.rank
  have hi2 := ((hk.rank hrk).1 i hi).1
  have := slack_row v (low_ok v ts (gr (ends st ts))) hk h.sum hi
  rw [at_slN v ts hi2]
  exact ⟨by omega, hi2⟩
theorem ne_nD (m n : Nat) : neD (nD m) (nD n) = some (.bool (!decide (m = n))) := by
  rw [nD, nD, neD_int]
  by_cases h : m = n
  · rw [decide_eq_true h, decide_eq_true (by omega)]
  · rw [decide_eq_false h, decide_eq_false (by omega)]
theorem le_nDD (m n : Nat) : leD (nD m) (nD n) = some (.bool (decide (m ≤ n))) := by
  rw [nD, nD, leD_int]
  by_cases h : m ≤ n
  · rw [decide_eq_true h, decide_eq_true (by omega)]
  · rw [decide_eq_false h, decide_eq_false (by omega)]
theorem lt_nDD (m n : Nat) : ltD (nD m) (nD n) = some (.bool (decide (m < n))) := by
  rw [nD, nD, ltD_int]
  by_cases h : m < n
  · rw [decide_eq_true h, decide_eq_true (by omega)]
  · rw [decide_eq_false h, decide_eq_false (by omega)]
theorem plainAll_row (l : List Nat) : (nT l).plain = true := by simp [nT]
theorem okS_nT (n : Nat) {l : List Nat} (h : l.length ≤ 1000) : OkS (n + 1) (nT l) := .tup _ _ (by simpa using h) (plainAll_nD l) fun d hd => by
  obtain ⟨x, _, rfl⟩ := List.mem_map.mp hd
  exact .int _ _
def S__law_is_right : FSpec := fun avs hd Q E => ∃ st ts, avs = [.hand, .d (stD st), .d (nT ts)] ∧ Ok st ∧ ts.length = st.length ∧ (∀ x ∈ ts, x ≤ 100) ∧ HandD hd ∧ ∀ hd', HandD hd' → Q (.bool true) hd'
theorem rd__law_is_right (avs hd Q E) (h : S__law_is_right avs hd Q E) : t__law_is_right S_ends_of S_longest_row S_slacks_of S__law_draw (S_same 3) S__law_is_integer S__law_ends S__law_rows S__law_with (fnEnds false Q) ⟨initG ["hand", "some", "times", "ends", "greatest", "rows", "row", "one", "slacks", "at", "slack", "later", "other"] avs, hd⟩ := by
  obtain ⟨st, ts, rfl, v, ht, hx, hh, q⟩ := h
  have h2 := v.n2
  have h1 := v.n1
  simp only [t__law_is_right]
  simp [S__law_ends, S__law_rows, and_assoc]
  have eG : maxOfD [nT (ends st ts)] = some (nD (gr (ends st ts))) := maxOf_grT (ends_ne v ts)
  refine ⟨st, rfl, ts, rfl, v, ht, _, eG, st, rfl, v, fun F hF hl => ?_⟩
  refine fRun_inv (fun i s => ∃ S6, s = ⟨[.h, .v (stD st), .v (nT ts), .v (nT (ends st ts)), .v (nD (gr (ends st ts))), .m (.list (((F.take i).filter (isL st ts)).map nT)), S6, .no, .no, .no, .no, .no, .no], hd⟩) ?_ ?_ ⟨.no, rfl⟩
  · rintro i d s N hd' ⟨S6, rfl⟩ hN
    have hi : i < F.length := by simpa using (List.getElem?_eq_some_iff.mp hd').1
    have ed : d = nT F[i] := by
      rw [List.getElem?_map, List.getElem?_eq_getElem hi] at hd'
      exact (Option.some.inj hd').symm
    subst ed
    obtain ⟨k, hk⟩ := (hF F[i]).mp (List.getElem_mem hi)
    have tk := List.take_succ_eq_append_getElem hi
    rw [tk, List.filter_append] at hN
    have fl := List.length_filter_le (isL st ts) (F.take i)
    have tl : (F.take i).length ≤ F.length := by simp; omega
    have hI : isL st ts F[i] = (decide (e_ st ts k = gr (ends st ts)) && decide (sm ts F[i] = gr (ends st ts))) := by unfold isL; rw [hk.lastN]
    generalize F[i] = r at hk hN hI ⊢
    have hl2 := row_len v hk
    have e1 : ixD (nT r) (.int (-1)) = some (nD k) := ix_last hk.last.2.2.2
    have e2 : ixD (nT (ends st ts)) (nD k) = some (nD (e_ st ts k)) := ix_nT (l := ends st ts) (by rw [ends_len]; exact hk.last.1)
    simp [e1, e2, eq_nD]
    have e3 : ∀ b, isL st ts r = b → [r].filter (isL st ts) = if b = true then [r] else [] := fun b e => by
      rw [List.filter_cons, e]; rfl
    by_cases c1 : e_ st ts k = gr (ends st ts)
    · refine .inr ⟨c1, _, .inr rfl, by rw [List.length_map]; simp only [sizeLine]; omega, cRun_of _ (fun x => nD (at0 ts x)) _ (fun x hx2 Y y => ?_) _ _ ?_⟩
      · obtain ⟨rk, hrk⟩ := v.rank
        have := ((hk.rank hrk).1 x hx2).1
        have e4 : ixD (nT ts) (nD x) = some (nD (at0 ts x)) := ix_nT (l := ts) (by omega)
        simp [e4]
        exact y
      · have m1 : r.map (fun x => nD (at0 ts x)) = (r.map (at0 ts)).map nD := by rw [List.map_map]; rfl
        rw [List.nil_append, m1]
        refine ⟨_, sum_nD _, _, eq_nD _ _, ?_⟩
        rw [decide_eq_true c1, Bool.true_and] at hI
        by_cases c2 : sm ts r = gr (ends st ts)
        · rw [decide_eq_true c2] at hI
          rw [e3 _ hI] at hN
          rw [if_pos rfl, List.map_append] at hN
          exact .inr ⟨by rw [show (r.map (at0 ts)).sum = sm ts r from rfl, decide_eq_true c2], by simp only [sizeLine]; omega, hN _ ⟨_, rfl⟩⟩
        · rw [decide_eq_false c2] at hI
          rw [e3 _ hI] at hN
          rw [if_neg Bool.false_ne_true, List.append_nil] at hN
          exact .inl ⟨by rw [show (r.map (at0 ts)).sum = sm ts r from rfl, decide_eq_false c2], hN _ ⟨_, rfl⟩⟩
    · rw [decide_eq_false c1, Bool.false_and] at hI
      rw [e3 _ hI] at hN
      rw [if_neg Bool.false_ne_true, List.append_nil] at hN
      exact .inl ⟨c1, hN _ ⟨_, rfl⟩⟩
  · rintro s ⟨S6, rfl⟩
    rw [List.length_map, List.take_length]
    obtain ⟨ne, em⟩ := long_min v ts hF
    have rI : ∀ r ∈ F.filter (isL st ts), IsLong st ts r := fun r hr => (isL_iff ((hF r).mp (List.mem_filter.mp hr).1)).mp (List.mem_filter.mp hr).2
    generalize F.filter (isL st ts) = R at ne em rI
    have eM := minOf_nT ne
    rw [em] at eM
    simp [S_ends_of, S_longest_row, S_same, eM, and_assoc]
    have hx2 := v.n2
    have lo := (long_ok v ts).mem
    have ll : (long st ts).length ≤ 1000 := by
      obtain ⟨k, hk, _⟩ := lo.row
      have := row_len v hk
      omega
    have le := ends_len st ts
    refine ⟨st, rfl, ts, rfl, v, ht, hx, st, rfl, ts, rfl, v, ht, hx, by simp [sizeLine], rfl, rfl, rfl, ?_, ?_⟩
    · refine .lst 2 _ (by simp) (by simp [nT]) fun d hd => ?_
      simp at hd
      rcases hd with e | e
      · rw [e]; exact okS_nT 1 (by omega)
      · rw [e]
        refine .tup 1 _ (by simp) (by simp [nT]) fun d hd => ?_
        simp at hd
        rcases hd with e | e
        · rw [e]; exact .int _ _
        · rw [e]; exact okS_nT 0 ll
    · refine ⟨st, ts, rfl, v, ht, hx, ?_⟩
      rw [slackD_nD v ht]
      have sl := slN_len v ts
      have sl2 : ∀ {i : Nat}, i < st.length → _ := fun {i} hi => slN_ok v ht (i := i) hi
      have sl3 : ∀ r ∈ R, ∀ x ∈ r, at0 (slN st ts) x = 0 ∧ x < st.length := fun r hr x hx => slN_row v (rI r hr) hx
      generalize slN st ts = sn at sl sl2 sl3 ⊢
      simp [stD, sl]
      refine ⟨by simp [sizeLine]; omega, cRun_of _ (fun _ => .bool true) _ (fun x hx3 Y y => ?_) _ _ ?_⟩
      · simp [S__law_is_integer, nD, and_assoc]
        exact y
      · simp only [List.nil_append]
        refine ⟨_, allD_map (fun _ => true) sn, .inr ⟨by rw [List.all_eq_true.mpr fun _ _ => rfl], ?_⟩⟩
        rw [enum_map nD]
        refine fRun_inv (fun i s => ∃ S9 S10, s = ⟨[.h, .v (.tuple (st.map nT)), .v (nT ts), .v (nT (ends st ts)), .v (nD (gr (ends st ts))), .m (.list (R.map nT)), S6, .no, .v (.tuple (sn.map nD)), S9, S10, .no, .no], hd⟩) ?_ ?_ ⟨.no, .no, rfl⟩
        · rintro i d s N hd' ⟨S9, S10, rfl⟩ hN
          have hi : i < sn.length := by simpa using (List.getElem?_eq_some_iff.mp hd').1
          have ed : d = .tuple [nD i, nD (at0 sn i)] := by
            rw [List.getElem?_map, List.getElem?_zipIdx, List.getElem?_eq_getElem hi] at hd'
            have := (Option.some.inj hd').symm
            rw [this]
            simp [at0, List.getD_eq_getElem?_getD, hi]
          subst ed
          obtain ⟨g1, g2⟩ := sl2 (i := i) (by omega)
          generalize at0 sn i = x at g1 g2 ⊢
          have e1 : addD (nD x) (.int 1) = some (.int ((x + 1 : Nat) : Int)) := by simp [nD]
          have E1 : maxOfD [nT (ends st (ts.set i (at0 ts i + x)))] = some (nD (gr (ends st (ts.set i (at0 ts i + x))))) := maxOf_grT (ends_ne v _)
          have E2 : maxOfD [nT (ends st (ts.set i (at0 ts i + (x + 1))))] = some (nD (gr (ends st (ts.set i (at0 ts i + (x + 1)))))) := maxOf_grT (ends_ne v _)
          simp [S__law_ends, S__law_with, and_assoc]
          refine ⟨ts, rfl, i, rfl, x, rfl, by omega, by omega, st, rfl, _, rfl, v, by simp; omega, _, E1, _, ne_nD _ _, ?_⟩
          refine .inl ⟨by simp [g1], ?_⟩
          refine ⟨_, e1, ts, rfl, i, rfl, x + 1, rfl, by omega, by omega, st, rfl, _, rfl, v, by simp; omega, _, E2, _, le_nDD _ _, ?_⟩
          refine .inl ⟨by simp [g2], ?_⟩
          exact hN _ ⟨_, _, rfl⟩
        · rintro s ⟨S9, S10, rfl⟩
          simp
          have e20 : slD (.list (R.map nT)) none (some 20) = some (.list ((R.take 20).map nT)) := by
            show some (PyData.list (PD.cutD _ _ _)) = _
            rw [show (20 : Int) = ((20 : Nat) : Int) from rfl, cut_to, List.map_take]
          refine ⟨_, e20, _, .inl rfl, ?_⟩
          refine fRun_inv (fun i s => ∃ S6, s = ⟨[.h, .v (.tuple (st.map nT)), .v (nT ts), .v (nT (ends st ts)), .v (nD (gr (ends st ts))), .m (.list (R.map nT)), S6, .no, .v (.tuple (sn.map nD)), S9, S10, .no, .no], hd⟩) ?_ ?_ ⟨S6, rfl⟩
          · rintro i d s N hd' ⟨S6, rfl⟩ hN
            have hi : i < (R.take 20).length := by simpa using (List.getElem?_eq_some_iff.mp hd').1
            have ed : d = nT (R.take 20)[i] := by
              rw [List.getElem?_map, List.getElem?_eq_getElem hi] at hd'
              exact (Option.some.inj hd').symm
            subst ed
            have hm := List.mem_of_mem_take (List.getElem_mem hi)
            generalize (R.take 20)[i] = r at hm ⊢
            obtain ⟨k, hk, _⟩ := (rI r hm).row
            have hl3 := row_len v hk
            simp [nT]
            refine ⟨by simp [sizeLine]; omega, cRun_of _ (fun _ => .bool false) _ (fun x hx3 Y y => ?_) _ _ ?_⟩
            · obtain ⟨z1, z2⟩ := sl3 r hm x hx3
              have e4 : ixD (.tuple (sn.map nD)) (nD x) = some (nD 0) := by rw [ix_nT (l := sn) (by omega), z1]
              have e5 : neD (nD 0) (.int 0) = some (.bool false) := ne_nD 0 0
              simp [e4, e5]
              exact y
            · simp only [List.nil_append]
              refine ⟨_, anyD_map (fun _ => false) r, .inl ⟨by simp, hN _ ⟨_, rfl⟩⟩⟩
          · rintro s ⟨S6, rfl⟩
            simp [S__law_draw, and_assoc]
            refine ⟨st.length, rfl, by omega, by omega, hh, fun a hd2 ha hh2 => ?_⟩
            have e6 : ixD (nT ts) (nD a) = some (nD (at0 ts a)) := ix_nT (l := ts) (by omega)
            have e7 : ltD (nD (at0 ts a)) (.int 100) = some (.bool (decide (at0 ts a < 100))) := lt_nDD _ 100
            simp [e6, e7, S__law_with, S_ends_of, and_assoc]
            generalize hm : (if at0 ts a < 100 then 1 else 0 : Nat) = m
            have em2 : (if at0 ts a < 100 then 1 else 0 : Int) = ((m : Nat) : Int) := by rw [← hm]; split <;> rfl
            have le2 : at0 ts a + m ≤ 100 := by
              have : at0 ts a ≤ 100 := by
                have l : a < ts.length := by omega
                have : at0 ts a = ts[a] := by simp [at0, List.getD_eq_getElem?_getD, l]
                rw [this]; exact hx _ (List.getElem_mem l)
              rw [← hm]; split <;> omega
            refine ⟨ts, rfl, a, rfl, m, em2, by omega, by omega, st, rfl, _, rfl, v, by simp; omega, fun x hx3 => ?_, _, _, .inr ⟨rfl, rfl⟩, ?_⟩
            · rcases List.mem_or_eq_of_mem_set hx3 with z | z
              · exact hx x z
              · rw [z]; exact le2
            · rw [zip_nD]
              refine ⟨by simp [sizeLine, ends_len]; omega, cRun_of _ (fun p => .bool (decide (p.1 ≤ p.2))) _ (fun p hp Y y => by simp [le_nDD, and_assoc]; exact y) _ _ ?_⟩
              simp only [List.nil_append]
              refine ⟨_, allD_map (fun p : Nat × Nat => decide (p.1 ≤ p.2)) _, ?_⟩
              rw [List.all_eq_true.mpr]
              · exact q _ hh2
              · intro p hp
                obtain ⟨i, hi, e⟩ := List.mem_iff_getElem.mp hp
                have hi2 : i < st.length := by simp [ends_len] at hi; omega
                have mo := ends_mono v (ts := ts) (a := a) (x := m) (by omega) hi2
                have e1 : p.1 = e_ st ts i := by rw [← e]; simp [e_, at0, List.getD_eq_getElem?_getD, ends_len, hi2]
                have e2 : p.2 = e_ st (ts.set a (at0 ts a + m)) i := by rw [← e]; simp [e_, at0, List.getD_eq_getElem?_getD, ends_len, hi2]
                rw [decide_eq_true_eq, e1, e2]
                exact mo
theorem mono__law_is_right : MonoF S__law_is_right := fun avs hd Q Q' E E' w _ ⟨i, t, e, p, r, x, y, q⟩ => ⟨i, t, e, p, r, x, y, fun hd' a => w _ _ (q hd' a)⟩
end Lw
end
section
set_option Elab.async false
set_option linter.all false
set_option maxRecDepth 100000
set_option maxHeartbeats 4000000
open PySem PySem.Spec PyProof.Rows L2 PD
namespace Lw
theorem len_is_integer : ∀ avs hd Q E, S_is_integer avs hd Q E → avs.length = P_is_integer.length := fun _ _ _ _ ⟨_, e, _⟩ => by rw [e]; rfl
theorem ok_is_integer {P : Program} {w : World} {K : PySem.W.Frag} {mg : Str → Option Value} {base : Heap} (T : Txt K mg) : FnOk P w K mg base CX0 1 T.f_is_integer T.d_is_integer P_is_integer (spD K false S_is_integer) :=
  fnD (k := 0) T.F_is_integer sc_is_integer len_is_integer fun cdv A outer s H E hr => ⟨_, wk_is_integer T  cdv A outer s H E hr, rd_is_integer⟩
theorem len_is_within : ∀ avs hd Q E, S_is_within avs hd Q E → avs.length = P_is_within.length := fun _ _ _ _ ⟨_, _, _, e, _⟩ => by rw [e]; rfl
theorem ok_is_within {P : Program} {w : World} {K : PySem.W.Frag} {mg : Str → Option Value} {base : Heap} (T : Txt K mg) : FnOk P w K mg base CX0 2 T.f_is_within T.d_is_within P_is_within (spD K false S_is_within) :=
  fnD (k := 1) T.F_is_within sc_is_within len_is_within fun cdv A outer s H E hr => ⟨_, wk_is_within T mono_is_integer ((ok_is_integer T).mono (by decide)) cdv A outer s H E hr, rd_is_within⟩
theorem len_is_sized : ∀ avs hd Q E, S_is_sized avs hd Q E → avs.length = P_is_sized.length := fun _ _ _ _ ⟨_, _, _, e, _⟩ => by rw [e]; rfl
theorem ok_is_sized {P : Program} {w : World} {K : PySem.W.Frag} {mg : Str → Option Value} {base : Heap} (T : Txt K mg) : FnOk P w K mg base CX0 1 T.f_is_sized T.d_is_sized P_is_sized (spD K false S_is_sized) :=
  fnD (k := 0) T.F_is_sized sc_is_sized len_is_sized fun cdv A outer s H E hr => ⟨_, wk_is_sized T  cdv A outer s H E hr, rd_is_sized⟩
theorem len_are_rising : ∀ avs hd Q E, S_are_rising avs hd Q E → avs.length = P_are_rising.length := fun _ _ _ _ ⟨_, e, _⟩ => by rw [e]; rfl
theorem ok_are_rising {P : Program} {w : World} {K : PySem.W.Frag} {mg : Str → Option Value} {base : Heap} (T : Txt K mg) : FnOk P w K mg base CX0 1 T.f_are_rising T.d_are_rising P_are_rising (spD K false S_are_rising) :=
  fnD (k := 0) T.F_are_rising sc_are_rising len_are_rising fun cdv A outer s H E hr => ⟨_, wk_are_rising T  cdv A outer s H E hr, rd_are_rising⟩
theorem len_is_lot : ∀ avs hd Q E, S_is_lot avs hd Q E → avs.length = P_is_lot.length := fun _ _ _ _ ⟨_, _, e, _⟩ => by rw [e]; rfl
theorem ok_is_lot {P : Program} {w : World} {K : PySem.W.Frag} {mg : Str → Option Value} {base : Heap} (T : Txt K mg) : FnOk P w K mg base CX0 3 T.f_is_lot T.d_is_lot P_is_lot (spD K false S_is_lot) :=
  fnD (k := 2) T.F_is_lot sc_is_lot len_is_lot fun cdv A outer s H E hr => ⟨_, wk_is_lot T mono_is_within ((ok_is_within T).mono (by decide)) mono_are_rising ((ok_are_rising T).mono (by decide)) cdv A outer s H E hr, rd_is_lot⟩
theorem len_are_stages : ∀ avs hd Q E, S_are_stages avs hd Q E → avs.length = P_are_stages.length := fun _ _ _ _ ⟨_, e, _⟩ => by rw [e]; rfl
theorem ok_are_stages {P : Program} {w : World} {K : PySem.W.Frag} {mg : Str → Option Value} {base : Heap} (T : Txt K mg) : FnOk P w K mg base CX0 4 T.f_are_stages T.d_are_stages P_are_stages (spD K false S_are_stages) :=
  fnD (k := 3) T.F_are_stages sc_are_stages len_are_stages fun cdv A outer s H E hr => ⟨_, wk_are_stages T mono_is_sized ((ok_is_sized T).mono (by decide)) mono_is_lot ((ok_is_lot T).mono (by decide)) cdv A outer s H E hr, rd_are_stages⟩
theorem len_check_stages : ∀ avs hd Q E, S_check_stages avs hd Q E → avs.length = P_check_stages.length := fun _ _ _ _ ⟨_, e, _⟩ => by rw [e]; rfl
theorem ok_check_stages {P : Program} {w : World} {K : PySem.W.Frag} {mg : Str → Option Value} {base : Heap} (T : Txt K mg) : FnOk P w K mg base CX0 5 T.f_check_stages T.d_check_stages P_check_stages (spD K false S_check_stages) :=
  fnD (k := 4) T.F_check_stages sc_check_stages len_check_stages fun cdv A outer s H E hr => ⟨_, wk_check_stages T mono_are_stages ((ok_are_stages T).mono (by decide)) cdv A outer s H E hr, rd_check_stages⟩
theorem len_least_order : ∀ avs hd Q E, S_least_order avs hd Q E → avs.length = P_least_order.length := fun _ _ _ _ ⟨_, e, _⟩ => by rw [e]; rfl
theorem ok_least_order {P : Program} {w : World} {K : PySem.W.Frag} {mg : Str → Option Value} {base : Heap} (T : Txt K mg) : FnOk P w K mg base CX0 1 T.f_least_order T.d_least_order P_least_order (spD K false S_least_order) :=
  fnD (k := 0) T.F_least_order sc_least_order len_least_order fun cdv A outer s H E hr => ⟨_, wk_least_order T  cdv A outer s H E hr, rd_least_order⟩
theorem len_check_ringless : ∀ avs hd Q E, S_check_ringless avs hd Q E → avs.length = P_check_ringless.length := fun _ _ _ _ ⟨_, e, _⟩ => by rw [e]; rfl
theorem ok_check_ringless {P : Program} {w : World} {K : PySem.W.Frag} {mg : Str → Option Value} {base : Heap} (T : Txt K mg) : FnOk P w K mg base CX0 6 T.f_check_ringless T.d_check_ringless P_check_ringless (spD K false S_check_ringless) :=
  fnD (k := 5) T.F_check_ringless sc_check_ringless len_check_ringless fun cdv A outer s H E hr => ⟨_, wk_check_ringless T mono_check_stages ((ok_check_stages T).mono (by decide)) mono_least_order ((ok_least_order T).mono (by decide)) cdv A outer s H E hr, rd_check_ringless⟩
theorem len_check_times : ∀ avs hd Q E, S_check_times avs hd Q E → avs.length = P_check_times.length := fun _ _ _ _ ⟨_, _, e, _⟩ => by rw [e]; rfl
theorem ok_check_times {P : Program} {w : World} {K : PySem.W.Frag} {mg : Str → Option Value} {base : Heap} (T : Txt K mg) : FnOk P w K mg base CX0 7 T.f_check_times T.d_check_times P_check_times (spD K false S_check_times) :=
  fnD (k := 6) T.F_check_times sc_check_times len_check_times fun cdv A outer s H E hr => ⟨_, wk_check_times T mono_is_within ((ok_is_within T).mono (by decide)) mono_is_sized ((ok_is_sized T).mono (by decide)) mono_check_ringless ((ok_check_ringless T).mono (by decide)) cdv A outer s H E hr, rd_check_times⟩
theorem len_raw_ends : ∀ avs hd Q E, S_raw_ends avs hd Q E → avs.length = P_raw_ends.length := fun _ _ _ _ ⟨_, _, _, e, _⟩ => by rw [e]; rfl
theorem ok_raw_ends {P : Program} {w : World} {K : PySem.W.Frag} {mg : Str → Option Value} {base : Heap} (T : Txt K mg) : FnOk P w K mg base CX0 1 T.f_raw_ends T.d_raw_ends P_raw_ends (spD K false S_raw_ends) :=
  fnD (k := 0) T.F_raw_ends sc_raw_ends len_raw_ends fun cdv A outer s H E hr => ⟨_, wk_raw_ends T  cdv A outer s H E hr, rd_raw_ends⟩
theorem len_ends_of : ∀ avs hd Q E, S_ends_of avs hd Q E → avs.length = P_ends_of.length := fun _ _ _ _ ⟨_, _, e, _⟩ => by rw [e]; rfl
theorem ok_ends_of {P : Program} {w : World} {K : PySem.W.Frag} {mg : Str → Option Value} {base : Heap} (T : Txt K mg) : FnOk P w K mg base CX0 8 T.f_ends_of T.d_ends_of P_ends_of (spD K false S_ends_of) :=
  fnD (k := 7) T.F_ends_of sc_ends_of len_ends_of fun cdv A outer s H E hr => ⟨_, wk_ends_of T mono_check_times ((ok_check_times T).mono (by decide)) mono_raw_ends ((ok_raw_ends T).mono (by decide)) cdv A outer s H E hr, rd_ends_of⟩
theorem len_rows_to : ∀ avs hd Q E, S_rows_to avs hd Q E → avs.length = P_rows_to.length := fun _ _ _ _ ⟨_, _, e, _⟩ => by rw [e]; rfl
theorem ok_rows_to {P : Program} {w : World} {K : PySem.W.Frag} {mg : Str → Option Value} {base : Heap} (T : Txt K mg) : FnOk P w K mg base CX0 2 T.f_rows_to T.d_rows_to P_rows_to (spD K false S_rows_to) :=
  fnD (k := 1) T.F_rows_to sc_rows_to len_rows_to fun cdv A outer s H E hr => ⟨_, wk_rows_to T mono_least_order ((ok_least_order T).mono (by decide)) cdv A outer s H E hr, rd_rows_to⟩
theorem len_longest_row : ∀ avs hd Q E, S_longest_row avs hd Q E → avs.length = P_longest_row.length := fun _ _ _ _ ⟨_, _, e, _⟩ => by rw [e]; rfl
theorem ok_longest_row {P : Program} {w : World} {K : PySem.W.Frag} {mg : Str → Option Value} {base : Heap} (T : Txt K mg) : FnOk P w K mg base CX0 8 T.f_longest_row T.d_longest_row P_longest_row (spD K false S_longest_row) :=
  fnD (k := 7) T.F_longest_row sc_longest_row len_longest_row fun cdv A outer s H E hr => ⟨_, wk_longest_row T mono_check_times ((ok_check_times T).mono (by decide)) mono_raw_ends ((ok_raw_ends T).mono (by decide)) mono_rows_to ((ok_rows_to T).mono (by decide)) cdv A outer s H E hr, rd_longest_row⟩
theorem len_slacks_of : ∀ avs hd Q E, S_slacks_of avs hd Q E → avs.length = P_slacks_of.length := fun _ _ _ _ ⟨_, _, e, _⟩ => by rw [e]; rfl
theorem ok_slacks_of {P : Program} {w : World} {K : PySem.W.Frag} {mg : Str → Option Value} {base : Heap} (T : Txt K mg) : FnOk P w K mg base CX0 8 T.f_slacks_of T.d_slacks_of P_slacks_of (spD K false S_slacks_of) :=
  fnD (k := 7) T.F_slacks_of sc_slacks_of len_slacks_of fun cdv A outer s H E hr => ⟨_, wk_slacks_of T mono_check_times ((ok_check_times T).mono (by decide)) mono_raw_ends ((ok_raw_ends T).mono (by decide)) cdv A outer s H E hr, rd_slacks_of⟩
theorem len__law_draw : ∀ avs hd Q E, S__law_draw avs hd Q E → avs.length = P__law_draw.length := fun _ _ _ _ ⟨_, e, _⟩ => by rw [e]; rfl
theorem ok__law_draw {P : Program} {w : World} {K : PySem.W.Frag} {mg : Str → Option Value} {base : Heap} (T : Txt K mg) : FnOk P w K mg base CX0 1 T.f__law_draw T.d__law_draw P__law_draw (spD K false S__law_draw) :=
  fnD (k := 0) T.F__law_draw sc__law_draw len__law_draw fun cdv A outer s H E hr => ⟨_, wk__law_draw T  cdv A outer s H E hr, rd__law_draw⟩
theorem len__law_any : ∀ avs hd Q E, S__law_any avs hd Q E → avs.length = P__law_any.length := fun _ _ _ _ ⟨_, e, _⟩ => by rw [e]; rfl
theorem ok__law_any {P : Program} {w : World} {K : PySem.W.Frag} {mg : Str → Option Value} {base : Heap} (T : Txt K mg) : FnOk P w K mg base CX0 2 T.f__law_any T.d__law_any P__law_any (spD K false S__law_any) :=
  fnD (k := 1) T.F__law_any sc__law_any len__law_any fun cdv A outer s H E hr => ⟨_, wk__law_any T mono__law_draw ((ok__law_draw T).mono (by decide)) cdv A outer s H E hr, rd__law_any⟩
theorem len__law_mixed : ∀ avs hd Q E, S__law_mixed avs hd Q E → avs.length = P__law_mixed.length := fun _ _ _ _ ⟨_, e, _⟩ => by rw [e]; rfl
theorem ok__law_mixed {P : Program} {w : World} {K : PySem.W.Frag} {mg : Str → Option Value} {base : Heap} (T : Txt K mg) : FnOk P w K mg base CX0 2 T.f__law_mixed T.d__law_mixed P__law_mixed (spD K false S__law_mixed) :=
  fnD (k := 1) T.F__law_mixed sc__law_mixed len__law_mixed fun cdv A outer s H E hr => ⟨_, wk__law_mixed T mono__law_draw ((ok__law_draw T).mono (by decide)) cdv A outer s H E hr, rd__law_mixed⟩
theorem len_same (n : Nat) : ∀ avs hd Q E, S_same n avs hd Q E → avs.length = P__law_same.length := fun _ _ _ _ ⟨_, e, _⟩ => by rw [e]; rfl
theorem fn_never {P : Program} {w : World} {K : PySem.W.Frag} {mg : Str → Option Value} {base : Heap} {k : Nat} {f : Addr} {fd : FuncData} {ps : List Str} {fr : Bool} : FnOk P w K mg base CX0 k f fd ps (spD K fr fun _ _ _ _ => False) :=
  ⟨fun _ _ _ _ ⟨_, _, _, _, _, _, _, z⟩ => z.elim, fun _ _ _ _ _ _ _ _ _ _ _ _ _ ⟨_, _, _, _, _, _, _, z⟩ => z.elim⟩
theorem ok_same {P : Program} {w : World} {K : PySem.W.Frag} {mg : Str → Option Value} {base : Heap} (T : Txt K mg) : ∀ n, FnOk P w K mg base CX0 (n + 1) T.f__law_same T.d__law_same P__law_same (spD K false (S_same n))
  | 0 => fnD (k := 0) T.F__law_same sc__law_same (len_same 0) fun cdv A outer s H E hr => ⟨_, wk__law_same T (fun _ _ _ _ _ _ _ _ z => z) fn_never cdv A outer s H E hr, rd__law_same (fun _ _ _ _ => False) 0 (fun m d hd Q E e => nomatch e)⟩
  | n + 1 => fnD (k := n + 1) T.F__law_same sc__law_same (len_same (n + 1)) fun cdv A outer s H E hr => ⟨_, wk__law_same T (mono_same n) (ok_same T n) cdv A outer s H E hr, rd__law_same (S_same n) (n + 1) fun m d hd Q E e o q => by cases e; exact ⟨d, rfl, o, q⟩⟩
abbrev S__law_same : FSpec := S_same 3
theorem mono__law_same : MonoF S__law_same := mono_same 3
theorem ok__law_same {P : Program} {w : World} {K : PySem.W.Frag} {mg : Str → Option Value} {base : Heap} (T : Txt K mg) : FnOk P w K mg base CX0 4 T.f__law_same T.d__law_same P__law_same (spD K false S__law_same) := ok_same T 3
theorem len__law_is_integer : ∀ avs hd Q E, S__law_is_integer avs hd Q E → avs.length = P__law_is_integer.length := fun _ _ _ _ ⟨_, e, _⟩ => by rw [e]; rfl
theorem ok__law_is_integer {P : Program} {w : World} {K : PySem.W.Frag} {mg : Str → Option Value} {base : Heap} (T : Txt K mg) : FnOk P w K mg base CX0 1 T.f__law_is_integer T.d__law_is_integer P__law_is_integer (spD K false S__law_is_integer) :=
  fnD (k := 0) T.F__law_is_integer sc__law_is_integer len__law_is_integer fun cdv A outer s H E hr => ⟨_, wk__law_is_integer T  cdv A outer s H E hr, rd__law_is_integer⟩
theorem len__law_round_free : ∀ avs hd Q E, S__law_round_free avs hd Q E → avs.length = P__law_round_free.length := fun _ _ _ _ ⟨_, e, _⟩ => by rw [e]; rfl
theorem ok__law_round_free {P : Program} {w : World} {K : PySem.W.Frag} {mg : Str → Option Value} {base : Heap} (T : Txt K mg) : FnOk P w K mg base CX0 3 T.f__law_round_free T.d__law_round_free P__law_round_free (spD K false S__law_round_free) :=
  fnD (k := 2) T.F__law_round_free sc__law_round_free len__law_round_free fun cdv A outer s H E hr => ⟨_, wk__law_round_free T mono__law_draw ((ok__law_draw T).mono (by decide)) mono__law_any ((ok__law_any T).mono (by decide)) mono__law_mixed ((ok__law_mixed T).mono (by decide)) cdv A outer s H E hr, rd__law_round_free⟩
theorem len__law_order : ∀ avs hd Q E, S__law_order avs hd Q E → avs.length = P__law_order.length := fun _ _ _ _ ⟨_, e, _⟩ => by rw [e]; rfl
theorem ok__law_order {P : Program} {w : World} {K : PySem.W.Frag} {mg : Str → Option Value} {base : Heap} (T : Txt K mg) : FnOk P w K mg base CX0 1 T.f__law_order T.d__law_order P__law_order (spD K false S__law_order) :=
  fnD (k := 0) T.F__law_order sc__law_order len__law_order fun cdv A outer s H E hr => ⟨_, wk__law_order T  cdv A outer s H E hr, rd__law_order⟩
theorem len__law_ends : ∀ avs hd Q E, S__law_ends avs hd Q E → avs.length = P__law_ends.length := fun _ _ _ _ ⟨_, _, e, _⟩ => by rw [e]; rfl
theorem ok__law_ends {P : Program} {w : World} {K : PySem.W.Frag} {mg : Str → Option Value} {base : Heap} (T : Txt K mg) : FnOk P w K mg base CX0 2 T.f__law_ends T.d__law_ends P__law_ends (spD K false S__law_ends) :=
  fnD (k := 1) T.F__law_ends sc__law_ends len__law_ends fun cdv A outer s H E hr => ⟨_, wk__law_ends T mono__law_order ((ok__law_order T).mono (by decide)) cdv A outer s H E hr, rd__law_ends⟩
theorem len__law_times : ∀ avs hd Q E, S__law_times avs hd Q E → avs.length = P__law_times.length := fun _ _ _ _ ⟨_, e, _⟩ => by rw [e]; rfl
theorem ok__law_times {P : Program} {w : World} {K : PySem.W.Frag} {mg : Str → Option Value} {base : Heap} (T : Txt K mg) : FnOk P w K mg base CX0 3 T.f__law_times T.d__law_times P__law_times (spD K false S__law_times) :=
  fnD (k := 2) T.F__law_times sc__law_times len__law_times fun cdv A outer s H E hr => ⟨_, wk__law_times T mono__law_draw ((ok__law_draw T).mono (by decide)) mono__law_any ((ok__law_any T).mono (by decide)) cdv A outer s H E hr, rd__law_times⟩
theorem len__law_rows : ∀ avs hd Q E, S__law_rows avs hd Q E → avs.length = P__law_rows.length := fun _ _ _ _ ⟨_, e, _⟩ => by rw [e]; rfl
theorem ok__law_rows {P : Program} {w : World} {K : PySem.W.Frag} {mg : Str → Option Value} {base : Heap} (T : Txt K mg) : FnOk P w K mg base CX0 1 T.f__law_rows T.d__law_rows P__law_rows (spD K false S__law_rows) :=
  fnD (k := 0) T.F__law_rows sc__law_rows len__law_rows fun cdv A outer s H E hr => ⟨_, wk__law_rows T  cdv A outer s H E hr, rd__law_rows⟩
theorem len__law_with : ∀ avs hd Q E, S__law_with avs hd Q E → avs.length = P__law_with.length := fun _ _ _ _ ⟨_, _, _, e, _⟩ => by rw [e]; rfl
theorem ok__law_with {P : Program} {w : World} {K : PySem.W.Frag} {mg : Str → Option Value} {base : Heap} (T : Txt K mg) : FnOk P w K mg base CX0 1 T.f__law_with T.d__law_with P__law_with (spD K false S__law_with) :=
  fnD (k := 0) T.F__law_with sc__law_with len__law_with fun cdv A outer s H E hr => ⟨_, wk__law_with T  cdv A outer s H E hr, rd__law_with⟩
theorem len__law_is_right : ∀ avs hd Q E, S__law_is_right avs hd Q E → avs.length = P__law_is_right.length := fun _ _ _ _ ⟨_, _, e, _⟩ => by rw [e]; rfl
theorem ok__law_is_right {P : Program} {w : World} {K : PySem.W.Frag} {mg : Str → Option Value} {base : Heap} (T : Txt K mg) : FnOk P w K mg base CX0 9 T.f__law_is_right T.d__law_is_right P__law_is_right (spD K false S__law_is_right) :=
  fnD (k := 8) T.F__law_is_right sc__law_is_right len__law_is_right fun cdv A outer s H E hr => ⟨_, wk__law_is_right T mono_ends_of ((ok_ends_of T).mono (by decide)) mono_longest_row ((ok_longest_row T).mono (by decide)) mono_slacks_of ((ok_slacks_of T).mono (by decide)) mono__law_draw ((ok__law_draw T).mono (by decide)) mono__law_same ((ok__law_same T).mono (by decide)) mono__law_is_integer ((ok__law_is_integer T).mono (by decide)) mono__law_ends ((ok__law_ends T).mono (by decide)) mono__law_rows ((ok__law_rows T).mono (by decide)) mono__law_with ((ok__law_with T).mono (by decide)) cdv A outer s H E hr, rd__law_is_right⟩
end Lw
end
section
set_option Elab.async false
set_option linter.all false
set_option maxRecDepth 100000
set_option maxHeartbeats 4000000
open PySem PySem.Spec PyProof.Rows L2 PD
namespace Lw
theorem ok__law_hand {P : Program} {w : World} {K : PySem.W.Frag} {mg : Str → Option Value} {base : Heap} (T : Txt K mg) : FnOk P w K mg base CX0 1 T.f__law_hand T.d__law_hand P__law_hand (spHand K) := by
  refine T.F__law_hand.ok sc__law_hand (fun vs H Q E ⟨a, ns, e, _⟩ => by rw [e]; rfl) fun cdv A outer s H vs Q E hr h => ?_
  have hu := hu64 hr
  have h' := h
  obtain ⟨a, ns, rfl, _⟩ := h'
  refine ⟨_, pss_cons (ps_setLc (i := 1) (own := [("cell", 2)]) (g := gName 2) (tt := L2.tYes) (te := lift K tAbs2) rfl sc__law_hand.nd rfl rfl (sw_true rfl rfl rfl (by decide +kernel)) (pi_list (pe_slice sl_list (pv 0) po_none (po_some pe_int))) (blkOk_by (own := [("cell", 2)]) (N := N__law_hand) (sc := defScope s__law_hand) (by decide +kernel)) (fun _ _ _ _ _ => pg_name (i := 2) sc__law_hand.nd rfl (Or.inl rfl)) (fun _ _ _ _ _ => pts_nil)
    (fun _ _ _ _ _ => DE.pe (t := tAbs2) (de_callB call_absP (by rfl) T.m_abs bt_abs (dls_cons (DE.dl (de_callTy call_intP (by rfl) T.m_int bt_int (dls_cons (dl_var 2) dls_nil))) dls_nil))))
    (DSs.ps (dss_cons (ds_ret (DE.x (DF.de (df_lst (da_cons (de_var 1) (da_cons de_int (da_cons de_int (da_cons (de_op op_addD (DE.dl de_int) (DE.dl (de_op op_mulD (DE.dl de_int) (DE.dl (de_callB call_lenP (by rfl) T.m_len bt_len (dls_cons (dl_var 1) dls_nil)))))) (da_cons de_int da_nil))))))))) dss_nil)), ?_⟩
  exact hand_read h rfl
end Lw
end
section
set_option Elab.async false
set_option linter.all false
set_option maxRecDepth 100000
set_option maxHeartbeats 4000000
open PySem PySem.Spec PyProof.Rows L2 PD
namespace Lw
def t_law (S_ends_of S_longest_row S_slacks_of S__law_same S__law_round_free S__law_times S__law_is_right : FSpec) : PTS :=
  (tSq (tUp (tTp (tCn (tTp (tCn (tTp tNl) (tCn (tTp (tCn (tK (.int 0)) tNl)) (tCn (tTp (tCn (tK (.int 0)) tNl)) (tCn (tTp (tCn (tK (.int 1)) (tCn (tK (.int 2)) tNl))) tNl))))) (tCn (tTp (tCn (tK (.int 1)) (tCn (tK (.int 2)) (tCn (tK (.int 3)) (tCn (tK (.int 1)) tNl))))) tNl))) (gTu 2 (gCo (gN 2) (gCo (gN 3) gNi))))
  (tSq (tIfc (tNt (tBo (tFn S__law_same (tCnV (tLs (tCn (tFn S_ends_of (tCnV (tVr 2) (tCnV (tVr 3) tNlV))) (tCn (tFn S_longest_row (tCnV (tVr 2) (tCnV (tVr 3) tNlV))) (tCn (tFn S_slacks_of (tCnV (tVr 2) (tCnV (tVr 3) tNlV))) tNl)))) (tCnV (tLs (tCn (tTp (tCn (tK (.int 1)) (tCn (tK (.int 3)) (tCn (tK (.int 4)) (tCn (tK (.int 5)) tNl))))) (tCn (tTp (tCn (tK (.int 5)) (tCn (tTp (tCn (tK (.int 0)) (tCn (tK (.int 2)) (tCn (tK (.int 3)) tNl)))) tNl))) (tCn (tTp (tCn (tK (.int 0)) (tCn (tK (.int 1)) (tCn (tK (.int 0)) (tCn (tK (.int 0)) tNl))))) tNl)))) tNlV))))) (tSq (tRt false (tK (.bool false)))
  tNx) tNx)
  (tSq (tIfc (tNt (tBo (tFn S__law_same (tCnV (tLs (tCn (tFn S_longest_row (tCnV (tTp (tCn (tTp tNl) (tCn (tTp tNl) tNl))) (tCnV (tTp (tCn (tK (.int 0)) (tCn (tK (.int 0)) tNl))) tNlV))) (tCn (tFn S_slacks_of (tCnV (tTp (tCn (tTp tNl) (tCn (tTp tNl) tNl))) (tCnV (tTp (tCn (tK (.int 2)) (tCn (tK (.int 5)) tNl))) tNlV))) tNl))) (tCnV (tLs (tCn (tTp (tCn (tK (.int 0)) (tCn (tTp (tCn (tK (.int 0)) tNl)) tNl))) (tCn (tTp (tCn (tK (.int 3)) (tCn (tK (.int 0)) tNl))) tNl))) tNlV))))) (tSq (tRt false (tK (.bool false)))
  tNx) tNx)
  (tSq (tFo (tRg1 (tCn (tK (.int 6)) tNl)) (gN 4) (tSq (tAs false (tFn S__law_round_free (tCnH 1 (tCnV (tK (.int 7)) tNlV))) 2)
  (tSq (tIfc (tNt (tBo (tFn S__law_is_right (tCnH 1 (tCnV (tVr 2) (tCnV (tFn S__law_times (tCnH 1 (tCnV (tCl lenD (tCnL (tSl 2) tNlL)) tNlV))) tNlV)))))) (tSq (tRt false (tK (.bool false)))
  tNx) tNx)
  tNx)))
  (tSq (tRt false (tK (.bool true)))
  tNx)))))
theorem wk_law {P : Program} {w : World} {K : PySem.W.Frag} {mg : Str → Option Value} {base : Heap} (T : Txt K mg) {k : Nat}
  {S_ends_of : FSpec} (mono_ends_of : MonoF S_ends_of) (G_ends_of : FnOk P w K mg base CX0 k T.f_ends_of T.d_ends_of P_ends_of (spD K false S_ends_of))
  {S_longest_row : FSpec} (mono_longest_row : MonoF S_longest_row) (G_longest_row : FnOk P w K mg base CX0 k T.f_longest_row T.d_longest_row P_longest_row (spD K false S_longest_row))
  {S_slacks_of : FSpec} (mono_slacks_of : MonoF S_slacks_of) (G_slacks_of : FnOk P w K mg base CX0 k T.f_slacks_of T.d_slacks_of P_slacks_of (spD K false S_slacks_of))
  {S__law_same : FSpec} (mono__law_same : MonoF S__law_same) (G__law_same : FnOk P w K mg base CX0 k T.f__law_same T.d__law_same P__law_same (spD K false S__law_same))
  {S__law_round_free : FSpec} (mono__law_round_free : MonoF S__law_round_free) (G__law_round_free : FnOk P w K mg base CX0 k T.f__law_round_free T.d__law_round_free P__law_round_free (spD K false S__law_round_free))
  {S__law_times : FSpec} (mono__law_times : MonoF S__law_times) (G__law_times : FnOk P w K mg base CX0 k T.f__law_times T.d__law_times P__law_times (spD K false S__law_times))
  {S__law_is_right : FSpec} (mono__law_is_right : MonoF S__law_is_right) (G__law_is_right : FnOk P w K mg base CX0 k T.f__law_is_right T.d__law_is_right P__law_is_right (spD K false S__law_is_right))
  (cdv : Value) (A : Around) (outer : List Env) (s : Shared) (H : Hp) (E : XK) (hr : Room k (A.deeper (envOfC "law" (defScope s_law) s.heap.objs.size T.f_law cdv))) :
  DSs (cxOf CX0 P w K mg base N_law "law" (defScope s_law) T.f_law cdv A outer s H E).nox ((defBody s_law).drop 1) (t_law S_ends_of S_longest_row S_slacks_of S__law_same S__law_round_free S__law_times S__law_is_right) := by
  have hu := hu64 hr
  have hu1 := hu1_ hr
  have h : ∃ t, DSs (cxOf CX0 P w K mg base N_law "law" (defScope s_law) T.f_law cdv A outer s H E).nox ((defBody s_law).drop 1) t ∧ t = t_law S_ends_of S_longest_row S_slacks_of S__law_same S__law_round_free S__law_times S__law_is_right := by
    refine ⟨_, (dss_cons (ds_unp (de_tup (da_cons (de_tup (da_cons (de_tup da_nil) (da_cons (de_tup (da_cons de_int da_nil)) (da_cons (de_tup (da_cons de_int da_nil)) (da_cons (de_tup (da_cons de_int (da_cons de_int da_nil))) da_nil))))) (da_cons (de_tup (da_cons de_int (da_cons de_int (da_cons de_int (da_cons de_int da_nil))))) da_nil))) (dg_tup (n := 2) rfl (dgs_cons (dg_name (i := 2) sc_law.nd rfl (by first | exact .inl rfl | exact .inr rfl) (by first | exact .inl rfl | exact .inr rfl)) (dgs_cons (dg_name (i := 3) sc_law.nd rfl (by first | exact .inl rfl | exact .inr rfl) (by first | exact .inl rfl | exact .inr rfl)) dgs_nil))))
  (dss_cons (ds_if (dt_not (dt_val (de_call G__law_same mono__law_same hr (by rfl) T.g__law_same T.F__law_same.kp T.b__law_same pass0 (dv_cons (DF.de (df_lst (da_cons (de_call G_ends_of mono_ends_of hr (by rfl) T.g_ends_of T.F_ends_of.kp T.b_ends_of pass0 (dv_cons (de_var 2) (dv_cons (de_var 3) dv_nil))) (da_cons (de_call G_longest_row mono_longest_row hr (by rfl) T.g_longest_row T.F_longest_row.kp T.b_longest_row pass0 (dv_cons (de_var 2) (dv_cons (de_var 3) dv_nil))) (da_cons (de_call G_slacks_of mono_slacks_of hr (by rfl) T.g_slacks_of T.F_slacks_of.kp T.b_slacks_of pass0 (dv_cons (de_var 2) (dv_cons (de_var 3) dv_nil))) da_nil))))) (dv_cons (DF.de (df_lst (da_cons (de_tup (da_cons de_int (da_cons de_int (da_cons de_int (da_cons de_int da_nil))))) (da_cons (de_tup (da_cons de_int (da_cons (de_tup (da_cons de_int (da_cons de_int (da_cons de_int da_nil)))) da_nil))) (da_cons (de_tup (da_cons de_int (da_cons de_int (da_cons de_int (da_cons de_int da_nil))))) da_nil))))) dv_nil))))) (dss_cons (ds_ret (DE.x de_bl))
  dss_nil) dss_nil)
  (dss_cons (ds_if (dt_not (dt_val (de_call G__law_same mono__law_same hr (by rfl) T.g__law_same T.F__law_same.kp T.b__law_same pass0 (dv_cons (DF.de (df_lst (da_cons (de_call G_longest_row mono_longest_row hr (by rfl) T.g_longest_row T.F_longest_row.kp T.b_longest_row pass0 (dv_cons (de_tup (da_cons (de_tup da_nil) (da_cons (de_tup da_nil) da_nil))) (dv_cons (de_tup (da_cons de_int (da_cons de_int da_nil))) dv_nil))) (da_cons (de_call G_slacks_of mono_slacks_of hr (by rfl) T.g_slacks_of T.F_slacks_of.kp T.b_slacks_of pass0 (dv_cons (de_tup (da_cons (de_tup da_nil) (da_cons (de_tup da_nil) da_nil))) (dv_cons (de_tup (da_cons de_int (da_cons de_int da_nil))) dv_nil))) da_nil)))) (dv_cons (DF.de (df_lst (da_cons (de_tup (da_cons de_int (da_cons (de_tup (da_cons de_int da_nil)) da_nil))) (da_cons (de_tup (da_cons de_int (da_cons de_int da_nil))) da_nil)))) dv_nil))))) (dss_cons (ds_ret (DE.x de_bl))
  dss_nil) dss_nil)
  (dss_cons (ds_for PassesOwn.never rfl (di_rng1 (by rfl) T.m_range (da_cons de_int da_nil)) (dg_name (i := 4) sc_law.nd rfl (by first | exact .inl rfl | exact .inr rfl) (by first | exact .inl rfl | exact .inr rfl)) (dss_cons (ds_set (i := 2) sc_law.nd rfl (DE.x (de_call G__law_round_free mono__law_round_free hr (by rfl) T.g__law_round_free T.F__law_round_free.kp T.b__law_round_free pass0 (dv_hand (pv 1) (dv_cons de_int dv_nil)))) (by first | exact .inl rfl | exact .inr rfl))
  (dss_cons (ds_if (dt_not (dt_val (de_call G__law_is_right mono__law_is_right hr (by rfl) T.g__law_is_right T.F__law_is_right.kp T.b__law_is_right pass0 (dv_hand (pv 1) (dv_cons (de_var 2) (dv_cons (de_call G__law_times mono__law_times hr (by rfl) T.g__law_times T.F__law_times.kp T.b__law_times pass0 (dv_hand (pv 1) (dv_cons (de_callB call_lenP (by rfl) T.m_len bt_len (dls_cons (dl_var 2) dls_nil)) dv_nil))) dv_nil)))))) (dss_cons (ds_ret (DE.x de_bl))
  dss_nil) dss_nil)
  dss_nil)))
  (dss_cons (ds_ret (DE.x de_bl))
  dss_nil))))), ?_⟩
    rfl
  obtain ⟨t, h1, h2⟩ := h
  rw [← h2]
  exact h1
end Lw
end
section
set_option Elab.async false
set_option linter.all false
set_option maxRecDepth 100000
set_option maxHeartbeats 4000000
open PySem PySem.Spec PyProof.Rows L2 PD
namespace Lw
def st0 : List (List Nat) := [[], [0], [0], [1, 2]]
def st1 : List (List Nat) := [[], []]
theorem ok_st0 : Ok st0 := ⟨by decide, by decide, by unfold rising; decide, by decide, fun i => i, fun i l h x hx => by
  match i, h with
  | 0, h => cases h; cases hx
  | 1, h => cases h; simp at hx; first | (subst hx; decide) | (rcases hx with rfl | rfl <;> decide)
  | 2, h => cases h; simp at hx; first | (subst hx; decide) | (rcases hx with rfl | rfl <;> decide)
  | 3, h => cases h; simp at hx; first | (subst hx; decide) | (rcases hx with rfl | rfl <;> decide)
  | i + 4, h => simp [st0] at h⟩
theorem ok_st1 : Ok st1 := ⟨by decide, by decide, by unfold rising; decide, by decide, fun i => i, fun i l h x hx => by
  match i, h with
  | 0, h => cases h; cases hx
  | 1, h => cases h; cases hx
  | i + 2, h => simp [st1] at h⟩
theorem ends0 : ends st0 [1, 2, 3, 1] = [1, 3, 4, 5] := by decide +kernel
theorem long0 : long st0 [1, 2, 3, 1] = [0, 2, 3] := by decide +kernel
theorem low0 : low st0 [1, 2, 3, 1] ((5 : Nat) : Int) = [1, 4, 4, 5] := by decide +kernel
theorem ends1 : ends st1 [0, 0] = [0, 0] := by decide +kernel
theorem long1 : long st1 [0, 0] = [0] := by decide +kernel
theorem ends2 : ends st1 [2, 5] = [2, 5] := by decide +kernel
theorem low2 : low st1 [2, 5] ((5 : Nat) : Int) = [5, 5] := by decide +kernel
theorem slack0 : slackD st0 [1, 2, 3, 1] = [.int 0, .int 1, .int 0, .int 0] := by
  rw [slackD, ends0, show gr [1, 3, 4, 5] = 5 from rfl, low0]
  rfl
theorem slack2 : slackD st1 [2, 5] = [.int 3, .int 0] := by
  rw [slackD, ends2, show gr [2, 5] = 5 from rfl, low2]
  rfl
theorem rd_law (hd : List PyData) (hh : HandD hd) : t_law S_ends_of S_longest_row S_slacks_of (S_same 3) S__law_round_free S__law_times S__law_is_right lawEnds ⟨(List.replicate 5 .no).set 1 .h, hd⟩ := by
  simp only [t_law]
  simp [S_ends_of, S_longest_row, S_same, S_slacks_of, and_assoc, sizeLine]
  have oT : ∀ (n : Nat) (l : List Nat), l.length ≤ 1000 → OkS (n + 1) (nT l) := fun n l h => okS_nT n h
  refine ⟨st0, rfl, [1, 2, 3, 1], rfl, ok_st0, rfl, by decide, st0, rfl, [1, 2, 3, 1], rfl, ok_st0, rfl, by decide, st0, rfl, [1, 2, 3, 1], rfl, ok_st0, rfl, by decide, by rw [ends0]; rfl, by rw [ends0]; rfl, by rw [long0]; rfl, slack0.symm, ?_, ?_⟩
  · rw [ends0, long0, slack0]
    refine .lst 2 _ (by simp) (by simp [nT]) fun d hd => ?_
    simp at hd
    rcases hd with e | e | e
    · rw [e]; exact oT 1 _ (by simp)
    · rw [e]
      refine .tup 1 _ (by simp) (by simp [nT]) fun d hd => ?_
      simp at hd
      rcases hd with e | e
      · rw [e]; exact .int _ _
      · rw [e]; exact oT 0 _ (by simp)
    · rw [e]; exact oT 1 [0, 1, 0, 0] (by simp)
  · refine ⟨st1, rfl, [0, 0], rfl, ok_st1, rfl, by decide, st1, rfl, [2, 5], rfl, ok_st1, rfl, by decide, by rw [ends1]; rfl, by rw [long1]; rfl, slack2.symm, ?_, ?_⟩
    · rw [ends1, long1, slack2]
      refine .lst 2 _ (by simp) (by simp [nT]) fun d hd => ?_
      simp at hd
      rcases hd with e | e
      · rw [e]
        refine .tup 1 _ (by simp) (by simp [nT]) fun d hd => ?_
        simp at hd
        rcases hd with e | e
        · rw [e]; exact .int _ _
        · rw [e]; exact oT 0 _ (by simp)
      · rw [e]; exact oT 1 [3, 0] (by simp)
    · refine fRun_inv (fun i s => ∃ S2 S3 S4 hd, s = ⟨[.no, .h, .v S2, S3, S4], hd⟩ ∧ HandD hd) ?_ ?_ ⟨_, _, _, _, rfl, hh⟩
      · rintro i d s N hd' ⟨S2, S3, S4, hd, rfl, hh⟩ hN
        simp [S__law_round_free, and_assoc]
        refine ⟨7, rfl, by omega, by omega, hh, fun st hd2 v hh2 => ?_⟩
        have h2 := v.n2
        simp [S__law_times, S__law_is_right, stD, and_assoc]
        refine ⟨st.length, rfl, by omega, hh2, fun ts hd3 ht hx hh3 => ?_⟩
        exact ⟨st, rfl, ts, rfl, v, ht, hx, hh3, fun hd4 hh4 => hN _ ⟨_, _, _, _, rfl, hh4⟩⟩
      · rintro s ⟨S2, S3, S4, hd, rfl, hh⟩
        simp [lawEnds]
theorem pss_law {X : Cx} {b : List Stmt} {s : Stmt} {t u : TS} (h0 : b.head? = some s) (hs : PS X s t) (hr : PSs X (b.drop 1) u) : PSs X b (tSeq t u) := by
  cases b with
  | nil => cases h0
  | cons x b =>
    cases h0
    exact pss_cons hs hr
theorem ok_law {P : Program} {w : World} {K : PySem.W.Frag} {mg : Str → Option Value} {base : Heap} (T : Txt K mg) : FnOk P w K mg base CX0 20 T.f_law T.d_law ["script"] (spLaw K) := by
  refine (T.F_law.ok (k := 19) sc_law (fun vs H Q E ⟨a, ns, e, _⟩ => by rw [e]; rfl) fun cdv A outer s H vs Q E hr h => ?_)
  obtain ⟨a, ns, rfl, hs, hl, q⟩ := h
  have W := wk_law (P := P) (w := w) (base := base) T mono_ends_of ((ok_ends_of T).mono (by decide)) mono_longest_row ((ok_longest_row T).mono (by decide)) mono_slacks_of ((ok_slacks_of T).mono (by decide)) mono__law_same ((ok__law_same T).mono (by decide)) mono__law_round_free ((ok__law_round_free T).mono (by decide)) mono__law_times ((ok__law_times T).mono (by decide)) mono__law_is_right ((ok__law_is_right T).mono (by decide)) cdv A outer s H E hr
  refine ⟨_, pss_law (X := (cxOf CX0 P w K mg base N_law "law" (defScope s_law) T.f_law cdv A outer s H E).nox) (b := defBody s_law) rfl (ps_set (i := 1) sc_law.nd rfl (by first | exact .inl rfl | exact .inr rfl) (pe_call (ok__law_hand T) (hr.mono (by decide)) (by rfl) T.g__law_hand T.F__law_hand.kp T.b__law_hand .nil pass0 (pa_cons (pv 0) pa_nil))) W.ps, ?_⟩
  exact law_read (i := 1) (m := 4) W.mono hs hl rfl q (by decide) fun hd hh => rd_law hd hh
end Lw
end
section
set_option Elab.async false
set_option linter.all false
set_option maxRecDepth 100000
set_option maxHeartbeats 4000000
open PySem PySem.Spec PyProof.Rows L2 PD
namespace Lw
theorem all_mk {l : PySem.W.OpenLaw} {w : World} {K : PySem.W.Frag} {h : Heap} {mg : Str → Option Value} {fa : Addr} (X : K.In h) (G : h.Ns mainGlobals mg) (hfa : mg "law" = some (.ref fa))
  {f0 f1 f2 f3 f4 f5 f6 f7 f8 f9 f10 f11 f12 f13 f14 f15 f16 f17 f18 f19 f20 f21 f22 f23 f24 f25 f26 f27 f28 : Addr} {od0 an0 od1 an1 od2 an2 od3 an3 od4 an4 od5 an5 od6 an6 od7 an7 od8 an8 od9 an9 od10 an10 od11 an11 od12 an12 od13 an13 od14 an14 od15 an15 od16 an16 od17 an17 od18 an18 od19 an19 od20 an20 od21 an21 od22 an22 od23 an23 od24 an24 od25 an25 od26 an26 od27 an27 od28 an28 : Option Addr} {sl0 sl1 sl2 sl3 sl4 sl5 sl6 sl7 sl8 sl9 sl10 sl11 sl12 sl13 sl14 sl15 sl16 sl17 sl18 sl19 sl20 sl21 sl22 sl23 sl24 sl25 sl26 sl27 sl28 : Array (Option Value)} {oc0 kV0 dc0 pm0 cd0 ct0 oc1 kV1 dc1 pm1 cd1 ct1 oc2 kV2 dc2 pm2 cd2 ct2 oc3 kV3 dc3 pm3 cd3 ct3 oc4 kV4 dc4 pm4 cd4 ct4 oc5 kV5 dc5 pm5 cd5 ct5 oc6 kV6 dc6 pm6 cd6 ct6 oc7 kV7 dc7 pm7 cd7 ct7 oc8 kV8 dc8 pm8 cd8 ct8 oc9 kV9 dc9 pm9 cd9 ct9 oc10 kV10 dc10 pm10 cd10 ct10 oc11 kV11 dc11 pm11 cd11 ct11 oc12 kV12 dc12 pm12 cd12 ct12 oc13 kV13 dc13 pm13 cd13 ct13 oc14 kV14 dc14 pm14 cd14 ct14 oc15 kV15 dc15 pm15 cd15 ct15 oc16 kV16 dc16 pm16 cd16 ct16 oc17 kV17 dc17 pm17 cd17 ct17 oc18 kV18 dc18 pm18 cd18 ct18 oc19 kV19 dc19 pm19 cd19 ct19 oc20 kV20 dc20 pm20 cd20 ct20 oc21 kV21 dc21 pm21 cd21 ct21 oc22 kV22 dc22 pm22 cd22 ct22 oc23 kV23 dc23 pm23 cd23 ct23 oc24 kV24 dc24 pm24 cd24 ct24 oc25 kV25 dc25 pm25 cd25 ct25 oc26 kV26 dc26 pm26 cd26 ct26 oc27 kV27 dc27 pm27 cd27 ct27 oc28 kV28 dc28 pm28 cd28 ct28 : Value} {t0 t1 : Tok}
  (a0 : PySem.W.nsIn K mainGlobals "is_integer" = some (some (.ref f0))) (l0 : K.lookup f0 = some ⟨oc0, od0, .func (PySem.W.fnOf "is_integer" "is_integer" (defArgs s_is_integer) (defBody s_is_integer) (defScope s_is_integer) .none kV0 dc0 pm0 an0 cd0 ct0), sl0⟩) (c0 : PySem.W.codeIn K cd0 "is_integer" = true) (k0 : PySem.W.keepIn K (.ref f0) = true)
  (a1 : PySem.W.nsIn K mainGlobals "is_within" = some (some (.ref f1))) (l1 : K.lookup f1 = some ⟨oc1, od1, .func (PySem.W.fnOf "is_within" "is_within" (defArgs s_is_within) (defBody s_is_within) (defScope s_is_within) .none kV1 dc1 pm1 an1 cd1 ct1), sl1⟩) (c1 : PySem.W.codeIn K cd1 "is_within" = true) (k1 : PySem.W.keepIn K (.ref f1) = true)
  (a2 : PySem.W.nsIn K mainGlobals "is_sized" = some (some (.ref f2))) (l2 : K.lookup f2 = some ⟨oc2, od2, .func (PySem.W.fnOf "is_sized" "is_sized" (defArgs s_is_sized) (defBody s_is_sized) (defScope s_is_sized) .none kV2 dc2 pm2 an2 cd2 ct2), sl2⟩) (c2 : PySem.W.codeIn K cd2 "is_sized" = true) (k2 : PySem.W.keepIn K (.ref f2) = true)
  (a3 : PySem.W.nsIn K mainGlobals "are_rising" = some (some (.ref f3))) (l3 : K.lookup f3 = some ⟨oc3, od3, .func (PySem.W.fnOf "are_rising" "are_rising" (defArgs s_are_rising) (defBody s_are_rising) (defScope s_are_rising) .none kV3 dc3 pm3 an3 cd3 ct3), sl3⟩) (c3 : PySem.W.codeIn K cd3 "are_rising" = true) (k3 : PySem.W.keepIn K (.ref f3) = true)
  (a4 : PySem.W.nsIn K mainGlobals "is_lot" = some (some (.ref f4))) (l4 : K.lookup f4 = some ⟨oc4, od4, .func (PySem.W.fnOf "is_lot" "is_lot" (defArgs s_is_lot) (defBody s_is_lot) (defScope s_is_lot) .none kV4 dc4 pm4 an4 cd4 ct4), sl4⟩) (c4 : PySem.W.codeIn K cd4 "is_lot" = true) (k4 : PySem.W.keepIn K (.ref f4) = true)
  (a5 : PySem.W.nsIn K mainGlobals "are_stages" = some (some (.ref f5))) (l5 : K.lookup f5 = some ⟨oc5, od5, .func (PySem.W.fnOf "are_stages" "are_stages" (defArgs s_are_stages) (defBody s_are_stages) (defScope s_are_stages) .none kV5 dc5 pm5 an5 cd5 ct5), sl5⟩) (c5 : PySem.W.codeIn K cd5 "are_stages" = true) (k5 : PySem.W.keepIn K (.ref f5) = true)
  (a6 : PySem.W.nsIn K mainGlobals "check_stages" = some (some (.ref f6))) (l6 : K.lookup f6 = some ⟨oc6, od6, .func (PySem.W.fnOf "check_stages" "check_stages" (defArgs s_check_stages) (defBody s_check_stages) (defScope s_check_stages) .none kV6 dc6 pm6 an6 cd6 ct6), sl6⟩) (c6 : PySem.W.codeIn K cd6 "check_stages" = true) (k6 : PySem.W.keepIn K (.ref f6) = true)
  (a7 : PySem.W.nsIn K mainGlobals "least_order" = some (some (.ref f7))) (l7 : K.lookup f7 = some ⟨oc7, od7, .func (PySem.W.fnOf "least_order" "least_order" (defArgs s_least_order) (defBody s_least_order) (defScope s_least_order) .none kV7 dc7 pm7 an7 cd7 ct7), sl7⟩) (c7 : PySem.W.codeIn K cd7 "least_order" = true) (k7 : PySem.W.keepIn K (.ref f7) = true)
  (a8 : PySem.W.nsIn K mainGlobals "check_ringless" = some (some (.ref f8))) (l8 : K.lookup f8 = some ⟨oc8, od8, .func (PySem.W.fnOf "check_ringless" "check_ringless" (defArgs s_check_ringless) (defBody s_check_ringless) (defScope s_check_ringless) .none kV8 dc8 pm8 an8 cd8 ct8), sl8⟩) (c8 : PySem.W.codeIn K cd8 "check_ringless" = true) (k8 : PySem.W.keepIn K (.ref f8) = true)
  (a9 : PySem.W.nsIn K mainGlobals "check_times" = some (some (.ref f9))) (l9 : K.lookup f9 = some ⟨oc9, od9, .func (PySem.W.fnOf "check_times" "check_times" (defArgs s_check_times) (defBody s_check_times) (defScope s_check_times) .none kV9 dc9 pm9 an9 cd9 ct9), sl9⟩) (c9 : PySem.W.codeIn K cd9 "check_times" = true) (k9 : PySem.W.keepIn K (.ref f9) = true)
  (a10 : PySem.W.nsIn K mainGlobals "raw_ends" = some (some (.ref f10))) (l10 : K.lookup f10 = some ⟨oc10, od10, .func (PySem.W.fnOf "raw_ends" "raw_ends" (defArgs s_raw_ends) (defBody s_raw_ends) (defScope s_raw_ends) .none kV10 dc10 pm10 an10 cd10 ct10), sl10⟩) (c10 : PySem.W.codeIn K cd10 "raw_ends" = true) (k10 : PySem.W.keepIn K (.ref f10) = true)
  (a11 : PySem.W.nsIn K mainGlobals "ends_of" = some (some (.ref f11))) (l11 : K.lookup f11 = some ⟨oc11, od11, .func (PySem.W.fnOf "ends_of" "ends_of" (defArgs s_ends_of) (defBody s_ends_of) (defScope s_ends_of) .none kV11 dc11 pm11 an11 cd11 ct11), sl11⟩) (c11 : PySem.W.codeIn K cd11 "ends_of" = true) (k11 : PySem.W.keepIn K (.ref f11) = true)
  (a12 : PySem.W.nsIn K mainGlobals "rows_to" = some (some (.ref f12))) (l12 : K.lookup f12 = some ⟨oc12, od12, .func (PySem.W.fnOf "rows_to" "rows_to" (defArgs s_rows_to) (defBody s_rows_to) (defScope s_rows_to) .none kV12 dc12 pm12 an12 cd12 ct12), sl12⟩) (c12 : PySem.W.codeIn K cd12 "rows_to" = true) (k12 : PySem.W.keepIn K (.ref f12) = true)
  (a13 : PySem.W.nsIn K mainGlobals "longest_row" = some (some (.ref f13))) (l13 : K.lookup f13 = some ⟨oc13, od13, .func (PySem.W.fnOf "longest_row" "longest_row" (defArgs s_longest_row) (defBody s_longest_row) (defScope s_longest_row) .none kV13 dc13 pm13 an13 cd13 ct13), sl13⟩) (c13 : PySem.W.codeIn K cd13 "longest_row" = true) (k13 : PySem.W.keepIn K (.ref f13) = true)
  (a14 : PySem.W.nsIn K mainGlobals "slacks_of" = some (some (.ref f14))) (l14 : K.lookup f14 = some ⟨oc14, od14, .func (PySem.W.fnOf "slacks_of" "slacks_of" (defArgs s_slacks_of) (defBody s_slacks_of) (defScope s_slacks_of) .none kV14 dc14 pm14 an14 cd14 ct14), sl14⟩) (c14 : PySem.W.codeIn K cd14 "slacks_of" = true) (k14 : PySem.W.keepIn K (.ref f14) = true)
  (a15 : PySem.W.nsIn K mainGlobals "_law_hand" = some (some (.ref f15))) (l15 : K.lookup f15 = some ⟨oc15, od15, .func (PySem.W.fnOf "_law_hand" "_law_hand" (defArgs s__law_hand) (defBody s__law_hand) (defScope s__law_hand) .none kV15 dc15 pm15 an15 cd15 ct15), sl15⟩) (c15 : PySem.W.codeIn K cd15 "_law_hand" = true) (k15 : PySem.W.keepIn K (.ref f15) = true)
  (a16 : PySem.W.nsIn K mainGlobals "_law_draw" = some (some (.ref f16))) (l16 : K.lookup f16 = some ⟨oc16, od16, .func (PySem.W.fnOf "_law_draw" "_law_draw" (defArgs s__law_draw) (defBody s__law_draw) (defScope s__law_draw) .none kV16 dc16 pm16 an16 cd16 ct16), sl16⟩) (c16 : PySem.W.codeIn K cd16 "_law_draw" = true) (k16 : PySem.W.keepIn K (.ref f16) = true)
  (a17 : PySem.W.nsIn K mainGlobals "_law_any" = some (some (.ref f17))) (l17 : K.lookup f17 = some ⟨oc17, od17, .func (PySem.W.fnOf "_law_any" "_law_any" (defArgs s__law_any) (defBody s__law_any) (defScope s__law_any) .none kV17 dc17 pm17 an17 cd17 ct17), sl17⟩) (c17 : PySem.W.codeIn K cd17 "_law_any" = true) (k17 : PySem.W.keepIn K (.ref f17) = true)
  (a18 : PySem.W.nsIn K mainGlobals "_law_mixed" = some (some (.ref f18))) (l18 : K.lookup f18 = some ⟨oc18, od18, .func (PySem.W.fnOf "_law_mixed" "_law_mixed" (defArgs s__law_mixed) (defBody s__law_mixed) (defScope s__law_mixed) .none kV18 dc18 pm18 an18 cd18 ct18), sl18⟩) (c18 : PySem.W.codeIn K cd18 "_law_mixed" = true) (k18 : PySem.W.keepIn K (.ref f18) = true)
  (a19 : PySem.W.nsIn K mainGlobals "_law_same" = some (some (.ref f19))) (l19 : K.lookup f19 = some ⟨oc19, od19, .func (PySem.W.fnOf "_law_same" "_law_same" (defArgs s__law_same) (defBody s__law_same) (defScope s__law_same) .none kV19 dc19 pm19 an19 cd19 ct19), sl19⟩) (c19 : PySem.W.codeIn K cd19 "_law_same" = true) (k19 : PySem.W.keepIn K (.ref f19) = true)
  (a20 : PySem.W.nsIn K mainGlobals "_law_is_integer" = some (some (.ref f20))) (l20 : K.lookup f20 = some ⟨oc20, od20, .func (PySem.W.fnOf "_law_is_integer" "_law_is_integer" (defArgs s__law_is_integer) (defBody s__law_is_integer) (defScope s__law_is_integer) .none kV20 dc20 pm20 an20 cd20 ct20), sl20⟩) (c20 : PySem.W.codeIn K cd20 "_law_is_integer" = true) (k20 : PySem.W.keepIn K (.ref f20) = true)
  (a21 : PySem.W.nsIn K mainGlobals "_law_round_free" = some (some (.ref f21))) (l21 : K.lookup f21 = some ⟨oc21, od21, .func (PySem.W.fnOf "_law_round_free" "_law_round_free" (defArgs s__law_round_free) (defBody s__law_round_free) (defScope s__law_round_free) .none kV21 dc21 pm21 an21 cd21 ct21), sl21⟩) (c21 : PySem.W.codeIn K cd21 "_law_round_free" = true) (k21 : PySem.W.keepIn K (.ref f21) = true)
  (a22 : PySem.W.nsIn K mainGlobals "_law_order" = some (some (.ref f22))) (l22 : K.lookup f22 = some ⟨oc22, od22, .func (PySem.W.fnOf "_law_order" "_law_order" (defArgs s__law_order) (defBody s__law_order) (defScope s__law_order) .none kV22 dc22 pm22 an22 cd22 ct22), sl22⟩) (c22 : PySem.W.codeIn K cd22 "_law_order" = true) (k22 : PySem.W.keepIn K (.ref f22) = true)
  (a23 : PySem.W.nsIn K mainGlobals "_law_ends" = some (some (.ref f23))) (l23 : K.lookup f23 = some ⟨oc23, od23, .func (PySem.W.fnOf "_law_ends" "_law_ends" (defArgs s__law_ends) (defBody s__law_ends) (defScope s__law_ends) .none kV23 dc23 pm23 an23 cd23 ct23), sl23⟩) (c23 : PySem.W.codeIn K cd23 "_law_ends" = true) (k23 : PySem.W.keepIn K (.ref f23) = true)
  (a24 : PySem.W.nsIn K mainGlobals "_law_times" = some (some (.ref f24))) (l24 : K.lookup f24 = some ⟨oc24, od24, .func (PySem.W.fnOf "_law_times" "_law_times" (defArgs s__law_times) (defBody s__law_times) (defScope s__law_times) .none kV24 dc24 pm24 an24 cd24 ct24), sl24⟩) (c24 : PySem.W.codeIn K cd24 "_law_times" = true) (k24 : PySem.W.keepIn K (.ref f24) = true)
  (a25 : PySem.W.nsIn K mainGlobals "_law_rows" = some (some (.ref f25))) (l25 : K.lookup f25 = some ⟨oc25, od25, .func (PySem.W.fnOf "_law_rows" "_law_rows" (defArgs s__law_rows) (defBody s__law_rows) (defScope s__law_rows) .none kV25 dc25 pm25 an25 cd25 ct25), sl25⟩) (c25 : PySem.W.codeIn K cd25 "_law_rows" = true) (k25 : PySem.W.keepIn K (.ref f25) = true)
  (a26 : PySem.W.nsIn K mainGlobals "_law_with" = some (some (.ref f26))) (l26 : K.lookup f26 = some ⟨oc26, od26, .func (PySem.W.fnOf "_law_with" "_law_with" (defArgs s__law_with) (defBody s__law_with) (defScope s__law_with) .none kV26 dc26 pm26 an26 cd26 ct26), sl26⟩) (c26 : PySem.W.codeIn K cd26 "_law_with" = true) (k26 : PySem.W.keepIn K (.ref f26) = true)
  (a27 : PySem.W.nsIn K mainGlobals "_law_is_right" = some (some (.ref f27))) (l27 : K.lookup f27 = some ⟨oc27, od27, .func (PySem.W.fnOf "_law_is_right" "_law_is_right" (defArgs s__law_is_right) (defBody s__law_is_right) (defScope s__law_is_right) .none kV27 dc27 pm27 an27 cd27 ct27), sl27⟩) (c27 : PySem.W.codeIn K cd27 "_law_is_right" = true) (k27 : PySem.W.keepIn K (.ref f27) = true)
  (a28 : PySem.W.nsIn K mainGlobals "law" = some (some (.ref f28))) (l28 : K.lookup f28 = some ⟨oc28, od28, .func (PySem.W.fnOf "law" "law" (defArgs s_law) (defBody s_law) (defScope s_law) .none kV28 dc28 pm28 an28 cd28 ct28), sl28⟩) (c28 : PySem.W.codeIn K cd28 "law" = true) (k28 : PySem.W.keepIn K (.ref f28) = true)
  (q0 : PySem.W.nsIn K mainGlobals "MOST_STAGES" = some (some (.int 10 t0)))
  (q1 : PySem.W.nsIn K mainGlobals "MOST_TIME" = some (some (.int 100 t1)))
  (z0 : PySem.W.nsIn K mainGlobals "abs" = some none)
  (z1 : PySem.W.nsIn K mainGlobals "all" = some none)
  (z2 : PySem.W.nsIn K mainGlobals "any" = some none)
  (z3 : PySem.W.nsIn K mainGlobals "bool" = some none)
  (z4 : PySem.W.nsIn K mainGlobals "enumerate" = some none)
  (z5 : PySem.W.nsIn K mainGlobals "int" = some none)
  (z6 : PySem.W.nsIn K mainGlobals "isinstance" = some none)
  (z7 : PySem.W.nsIn K mainGlobals "len" = some none)
  (z8 : PySem.W.nsIn K mainGlobals "list" = some none)
  (z9 : PySem.W.nsIn K mainGlobals "max" = some none)
  (z10 : PySem.W.nsIn K mainGlobals "min" = some none)
  (z11 : PySem.W.nsIn K mainGlobals "range" = some none)
  (z12 : PySem.W.nsIn K mainGlobals "sorted" = some none)
  (z13 : PySem.W.nsIn K mainGlobals "sum" = some none)
  (z14 : PySem.W.nsIn K mainGlobals "tuple" = some none)
  (z15 : PySem.W.nsIn K mainGlobals "zip" = some none)
  : ∃ fd : FuncData, (∀ (s : Shared) (v : Value), BindsTo s fd ⟨[v], []⟩ [("script", v)]) ∧ ∀ base : Heap, K.In base → base.Ns mainGlobals mg → FnOk l.prog w K mg base CX0 20 fa fd ["script"] (spLaw K) := by
  have e := hfa.symm.trans (PySem.W.mg_of X G a28)
  cases e
  have F0 := fun_mk (st := s_is_integer) l0 c0 k0
  have b0 := F0.binds (ps := P_is_integer) fun _ _ _ _ _ _ us hl => match us, hl with | [_], _ => rfl
  have F1 := fun_mk (st := s_is_within) l1 c1 k1
  have b1 := F1.binds (ps := P_is_within) fun _ _ _ _ _ _ us hl => match us, hl with | [_, _, _], _ => rfl
  have F2 := fun_mk (st := s_is_sized) l2 c2 k2
  have b2 := F2.binds (ps := P_is_sized) fun _ _ _ _ _ _ us hl => match us, hl with | [_, _, _], _ => rfl
  have F3 := fun_mk (st := s_are_rising) l3 c3 k3
  have b3 := F3.binds (ps := P_are_rising) fun _ _ _ _ _ _ us hl => match us, hl with | [_], _ => rfl
  have F4 := fun_mk (st := s_is_lot) l4 c4 k4
  have b4 := F4.binds (ps := P_is_lot) fun _ _ _ _ _ _ us hl => match us, hl with | [_, _], _ => rfl
  have F5 := fun_mk (st := s_are_stages) l5 c5 k5
  have b5 := F5.binds (ps := P_are_stages) fun _ _ _ _ _ _ us hl => match us, hl with | [_], _ => rfl
  have F6 := fun_mk (st := s_check_stages) l6 c6 k6
  have b6 := F6.binds (ps := P_check_stages) fun _ _ _ _ _ _ us hl => match us, hl with | [_], _ => rfl
  have F7 := fun_mk (st := s_least_order) l7 c7 k7
  have b7 := F7.binds (ps := P_least_order) fun _ _ _ _ _ _ us hl => match us, hl with | [_], _ => rfl
  have F8 := fun_mk (st := s_check_ringless) l8 c8 k8
  have b8 := F8.binds (ps := P_check_ringless) fun _ _ _ _ _ _ us hl => match us, hl with | [_], _ => rfl
  have F9 := fun_mk (st := s_check_times) l9 c9 k9
  have b9 := F9.binds (ps := P_check_times) fun _ _ _ _ _ _ us hl => match us, hl with | [_, _], _ => rfl
  have F10 := fun_mk (st := s_raw_ends) l10 c10 k10
  have b10 := F10.binds (ps := P_raw_ends) fun _ _ _ _ _ _ us hl => match us, hl with | [_, _, _], _ => rfl
  have F11 := fun_mk (st := s_ends_of) l11 c11 k11
  have b11 := F11.binds (ps := P_ends_of) fun _ _ _ _ _ _ us hl => match us, hl with | [_, _], _ => rfl
  have F12 := fun_mk (st := s_rows_to) l12 c12 k12
  have b12 := F12.binds (ps := P_rows_to) fun _ _ _ _ _ _ us hl => match us, hl with | [_, _, _], _ => rfl
  have F13 := fun_mk (st := s_longest_row) l13 c13 k13
  have b13 := F13.binds (ps := P_longest_row) fun _ _ _ _ _ _ us hl => match us, hl with | [_, _], _ => rfl
  have F14 := fun_mk (st := s_slacks_of) l14 c14 k14
  have b14 := F14.binds (ps := P_slacks_of) fun _ _ _ _ _ _ us hl => match us, hl with | [_, _], _ => rfl
  have F15 := fun_mk (st := s__law_hand) l15 c15 k15
  have b15 := F15.binds (ps := P__law_hand) fun _ _ _ _ _ _ us hl => match us, hl with | [_], _ => rfl
  have F16 := fun_mk (st := s__law_draw) l16 c16 k16
  have b16 := F16.binds (ps := P__law_draw) fun _ _ _ _ _ _ us hl => match us, hl with | [_, _], _ => rfl
  have F17 := fun_mk (st := s__law_any) l17 c17 k17
  have b17 := F17.binds (ps := P__law_any) fun _ _ _ _ _ _ us hl => match us, hl with | [_, _], _ => rfl
  have F18 := fun_mk (st := s__law_mixed) l18 c18 k18
  have b18 := F18.binds (ps := P__law_mixed) fun _ _ _ _ _ _ us hl => match us, hl with | [_, _], _ => rfl
  have F19 := fun_mk (st := s__law_same) l19 c19 k19
  have b19 := F19.binds (ps := P__law_same) fun _ _ _ _ _ _ us hl => match us, hl with | [_, _], _ => rfl
  have F20 := fun_mk (st := s__law_is_integer) l20 c20 k20
  have b20 := F20.binds (ps := P__law_is_integer) fun _ _ _ _ _ _ us hl => match us, hl with | [_], _ => rfl
  have F21 := fun_mk (st := s__law_round_free) l21 c21 k21
  have b21 := F21.binds (ps := P__law_round_free) fun _ _ _ _ _ _ us hl => match us, hl with | [_, _], _ => rfl
  have F22 := fun_mk (st := s__law_order) l22 c22 k22
  have b22 := F22.binds (ps := P__law_order) fun _ _ _ _ _ _ us hl => match us, hl with | [_], _ => rfl
  have F23 := fun_mk (st := s__law_ends) l23 c23 k23
  have b23 := F23.binds (ps := P__law_ends) fun _ _ _ _ _ _ us hl => match us, hl with | [_, _], _ => rfl
  have F24 := fun_mk (st := s__law_times) l24 c24 k24
  have b24 := F24.binds (ps := P__law_times) fun _ _ _ _ _ _ us hl => match us, hl with | [_, _], _ => rfl
  have F25 := fun_mk (st := s__law_rows) l25 c25 k25
  have b25 := F25.binds (ps := P__law_rows) fun _ _ _ _ _ _ us hl => match us, hl with | [_], _ => rfl
  have F26 := fun_mk (st := s__law_with) l26 c26 k26
  have b26 := F26.binds (ps := P__law_with) fun _ _ _ _ _ _ us hl => match us, hl with | [_, _, _], _ => rfl
  have F27 := fun_mk (st := s__law_is_right) l27 c27 k27
  have b27 := F27.binds (ps := P__law_is_right) fun _ _ _ _ _ _ us hl => match us, hl with | [_, _, _], _ => rfl
  have F28 := fun_mk (st := s_law) l28 c28 k28
  have b28 := F28.binds (ps := P_law) fun _ _ _ _ _ _ us hl => match us, hl with | [_], _ => rfl
  let T : Txt K mg := {
    f_is_integer := f0, d_is_integer := _, F_is_integer := F0, b_is_integer := b0, g_is_integer := PySem.W.mg_of X G a0,
    f_is_within := f1, d_is_within := _, F_is_within := F1, b_is_within := b1, g_is_within := PySem.W.mg_of X G a1,
    f_is_sized := f2, d_is_sized := _, F_is_sized := F2, b_is_sized := b2, g_is_sized := PySem.W.mg_of X G a2,
    f_are_rising := f3, d_are_rising := _, F_are_rising := F3, b_are_rising := b3, g_are_rising := PySem.W.mg_of X G a3,
    f_is_lot := f4, d_is_lot := _, F_is_lot := F4, b_is_lot := b4, g_is_lot := PySem.W.mg_of X G a4,
    f_are_stages := f5, d_are_stages := _, F_are_stages := F5, b_are_stages := b5, g_are_stages := PySem.W.mg_of X G a5,
    f_check_stages := f6, d_check_stages := _, F_check_stages := F6, b_check_stages := b6, g_check_stages := PySem.W.mg_of X G a6,
    f_least_order := f7, d_least_order := _, F_least_order := F7, b_least_order := b7, g_least_order := PySem.W.mg_of X G a7,
    f_check_ringless := f8, d_check_ringless := _, F_check_ringless := F8, b_check_ringless := b8, g_check_ringless := PySem.W.mg_of X G a8,
    f_check_times := f9, d_check_times := _, F_check_times := F9, b_check_times := b9, g_check_times := PySem.W.mg_of X G a9,
    f_raw_ends := f10, d_raw_ends := _, F_raw_ends := F10, b_raw_ends := b10, g_raw_ends := PySem.W.mg_of X G a10,
    f_ends_of := f11, d_ends_of := _, F_ends_of := F11, b_ends_of := b11, g_ends_of := PySem.W.mg_of X G a11,
    f_rows_to := f12, d_rows_to := _, F_rows_to := F12, b_rows_to := b12, g_rows_to := PySem.W.mg_of X G a12,
    f_longest_row := f13, d_longest_row := _, F_longest_row := F13, b_longest_row := b13, g_longest_row := PySem.W.mg_of X G a13,
    f_slacks_of := f14, d_slacks_of := _, F_slacks_of := F14, b_slacks_of := b14, g_slacks_of := PySem.W.mg_of X G a14,
    f__law_hand := f15, d__law_hand := _, F__law_hand := F15, b__law_hand := b15, g__law_hand := PySem.W.mg_of X G a15,
    f__law_draw := f16, d__law_draw := _, F__law_draw := F16, b__law_draw := b16, g__law_draw := PySem.W.mg_of X G a16,
    f__law_any := f17, d__law_any := _, F__law_any := F17, b__law_any := b17, g__law_any := PySem.W.mg_of X G a17,
    f__law_mixed := f18, d__law_mixed := _, F__law_mixed := F18, b__law_mixed := b18, g__law_mixed := PySem.W.mg_of X G a18,
    f__law_same := f19, d__law_same := _, F__law_same := F19, b__law_same := b19, g__law_same := PySem.W.mg_of X G a19,
    f__law_is_integer := f20, d__law_is_integer := _, F__law_is_integer := F20, b__law_is_integer := b20, g__law_is_integer := PySem.W.mg_of X G a20,
    f__law_round_free := f21, d__law_round_free := _, F__law_round_free := F21, b__law_round_free := b21, g__law_round_free := PySem.W.mg_of X G a21,
    f__law_order := f22, d__law_order := _, F__law_order := F22, b__law_order := b22, g__law_order := PySem.W.mg_of X G a22,
    f__law_ends := f23, d__law_ends := _, F__law_ends := F23, b__law_ends := b23, g__law_ends := PySem.W.mg_of X G a23,
    f__law_times := f24, d__law_times := _, F__law_times := F24, b__law_times := b24, g__law_times := PySem.W.mg_of X G a24,
    f__law_rows := f25, d__law_rows := _, F__law_rows := F25, b__law_rows := b25, g__law_rows := PySem.W.mg_of X G a25,
    f__law_with := f26, d__law_with := _, F__law_with := F26, b__law_with := b26, g__law_with := PySem.W.mg_of X G a26,
    f__law_is_right := f27, d__law_is_right := _, F__law_is_right := F27, b__law_is_right := b27, g__law_is_right := PySem.W.mg_of X G a27,
    f_law := fa, d_law := _, F_law := F28, b_law := b28, g_law := PySem.W.mg_of X G a28,
    t_MOST_STAGES := t0, c_MOST_STAGES := PySem.W.mg_of X G q0,
    t_MOST_TIME := t1, c_MOST_TIME := PySem.W.mg_of X G q1,
    m_abs := PySem.W.mg_none_of X G z0,
    m_all := PySem.W.mg_none_of X G z1,
    m_any := PySem.W.mg_none_of X G z2,
    m_bool := PySem.W.mg_none_of X G z3,
    m_enumerate := PySem.W.mg_none_of X G z4,
    m_int := PySem.W.mg_none_of X G z5,
    m_isinstance := PySem.W.mg_none_of X G z6,
    m_len := PySem.W.mg_none_of X G z7,
    m_list := PySem.W.mg_none_of X G z8,
    m_max := PySem.W.mg_none_of X G z9,
    m_min := PySem.W.mg_none_of X G z10,
    m_range := PySem.W.mg_none_of X G z11,
    m_sorted := PySem.W.mg_none_of X G z12,
    m_sum := PySem.W.mg_none_of X G z13,
    m_tuple := PySem.W.mg_none_of X G z14,
    m_zip := PySem.W.mg_none_of X G z15 }
  exact ⟨PySem.W.fnOf "law" "law" (defArgs s_law) (defBody s_law) (defScope s_law) .none kV28 dc28 pm28 an28 cd28 ct28, fun s v => .of_eq rfl, fun base _ _ => ok_law T⟩
theorem walk {l : PySem.W.OpenLaw} {q : Program} {loose : List Str} {XP : (Str → Option Value) → Heap → Prop} {YP : World → Heap → Prop} {d : DefRec} {K : Params → PySem.W.Frag} (hn : l.most = some 63) (hdf : d.params.defaults = [])
    (hY : ∀ (w : World) (h : Heap), YP w h → (K w.params).In h)
    (F : ∀ (w : World) (mg : Str → Option Value) (fa : Addr) (h : Heap), (K w.params).In h → h.Ns mainGlobals mg → mg d.name = some (.ref fa) →
      ∃ fd : FuncData, (∀ (s : Shared) (u : Value), BindsTo s fd ⟨[u], []⟩ [("script", u)]) ∧ ∀ base : Heap, (K w.params).In base → base.Ns mainGlobals mg → FnOk l.prog w (K w.params) mg base CX0 20 fa fd ["script"] (spLaw (K w.params))) :
    PySem.W.WalkO q loose XP YP l.row.toRowW d [] (fun f vs => PySem.call f vs) :=
  L2.walk_of (n := 63) (k := 20) (x := "script") (CX := fun _ => CX0) (sp := fun w => spLaw (K w.params)) hn (by decide) hdf ⟨rfl, by decide, by decide⟩ hY F (fun _ _ a ns hl _ hS => ⟨a, ns, rfl, hS, hl, fun _ => rfl⟩) fun _ _ _ _ _ z => z
end Lw
open PySem PySem.W PyProof.Rows
set_option maxRecDepth 100000 in
set_option maxHeartbeats 0 in
theorem PySem.Challenge.cw_layerhouse_k83_whole_ends_rows_and_slack_holds : PySem.Challenge.rw_layerhouse_k83_whole_ends_rows_and_slack.Holds := by
  w_on; o_law; k_head; (case hw => w_witness2)
  k_fill
  refine Lw.walk (l := PySem.Challenge.rw_layerhouse_k83_whole_ends_rows_and_slack) rfl rfl (fun w h Y => PySem.W.kIn_of Y) ?F
  case F =>
    intro w mg fa h KX G hmg
    refine' Lw.all_mk KX G hmg ?a0 ?l0 ?c0 ?k0 ?a1 ?l1 ?c1 ?k1 ?a2 ?l2 ?c2 ?k2 ?a3 ?l3 ?c3 ?k3 ?a4 ?l4 ?c4 ?k4 ?a5 ?l5 ?c5 ?k5 ?a6 ?l6 ?c6 ?k6 ?a7 ?l7 ?c7 ?k7 ?a8 ?l8 ?c8 ?k8 ?a9 ?l9 ?c9 ?k9 ?a10 ?l10 ?c10 ?k10 ?a11 ?l11 ?c11 ?k11 ?a12 ?l12 ?c12 ?k12 ?a13 ?l13 ?c13 ?k13 ?a14 ?l14 ?c14 ?k14 ?a15 ?l15 ?c15 ?k15 ?a16 ?l16 ?c16 ?k16 ?a17 ?l17 ?c17 ?k17 ?a18 ?l18 ?c18 ?k18 ?a19 ?l19 ?c19 ?k19 ?a20 ?l20 ?c20 ?k20 ?a21 ?l21 ?c21 ?k21 ?a22 ?l22 ?c22 ?k22 ?a23 ?l23 ?c23 ?k23 ?a24 ?l24 ?c24 ?k24 ?a25 ?l25 ?c25 ?k25 ?a26 ?l26 ?c26 ?k26 ?a27 ?l27 ?c27 ?k27 ?a28 ?l28 ?c28 ?k28 ?q0 ?q1 ?z0 ?z1 ?z2 ?z3 ?z4 ?z5 ?z6 ?z7 ?z8 ?z9 ?z10 ?z11 ?z12 ?z13 ?z14 ?z15
    (case a0 => k_is)
    (case l0 => k_is)
    (case c0 => k_is)
    (case k0 => k_is)
    (case a1 => k_is)
    (case l1 => k_is)
    (case c1 => k_is)
    (case k1 => k_is)
    (case a2 => k_is)
    (case l2 => k_is)
    (case c2 => k_is)
    (case k2 => k_is)
    (case a3 => k_is)
    (case l3 => k_is)
    (case c3 => k_is)
    (case k3 => k_is)
    (case a4 => k_is)
    (case l4 => k_is)
    (case c4 => k_is)
    (case k4 => k_is)
    (case a5 => k_is)
    (case l5 => k_is)
    (case c5 => k_is)
    (case k5 => k_is)
    (case a6 => k_is)
    (case l6 => k_is)
    (case c6 => k_is)
    (case k6 => k_is)
    (case a7 => k_is)
    (case l7 => k_is)
    (case c7 => k_is)
    (case k7 => k_is)
    (case a8 => k_is)
    (case l8 => k_is)
    (case c8 => k_is)
    (case k8 => k_is)
    (case a9 => k_is)
    (case l9 => k_is)
    (case c9 => k_is)
    (case k9 => k_is)
    (case a10 => k_is)
    (case l10 => k_is)
    (case c10 => k_is)
    (case k10 => k_is)
    (case a11 => k_is)
    (case l11 => k_is)
    (case c11 => k_is)
    (case k11 => k_is)
    (case a12 => k_is)
    (case l12 => k_is)
    (case c12 => k_is)
    (case k12 => k_is)
    (case a13 => k_is)
    (case l13 => k_is)
    (case c13 => k_is)
    (case k13 => k_is)
    (case a14 => k_is)
    (case l14 => k_is)
    (case c14 => k_is)
    (case k14 => k_is)
    (case a15 => k_is)
    (case l15 => k_is)
    (case c15 => k_is)
    (case k15 => k_is)
    (case a16 => k_is)
    (case l16 => k_is)
    (case c16 => k_is)
    (case k16 => k_is)
    (case a17 => k_is)
    (case l17 => k_is)
    (case c17 => k_is)
    (case k17 => k_is)
    (case a18 => k_is)
    (case l18 => k_is)
    (case c18 => k_is)
    (case k18 => k_is)
    (case a19 => k_is)
    (case l19 => k_is)
    (case c19 => k_is)
    (case k19 => k_is)
    (case a20 => k_is)
    (case l20 => k_is)
    (case c20 => k_is)
    (case k20 => k_is)
    (case a21 => k_is)
    (case l21 => k_is)
    (case c21 => k_is)
    (case k21 => k_is)
    (case a22 => k_is)
    (case l22 => k_is)
    (case c22 => k_is)
    (case k22 => k_is)
    (case a23 => k_is)
    (case l23 => k_is)
    (case c23 => k_is)
    (case k23 => k_is)
    (case a24 => k_is)
    (case l24 => k_is)
    (case c24 => k_is)
    (case k24 => k_is)
    (case a25 => k_is)
    (case l25 => k_is)
    (case c25 => k_is)
    (case k25 => k_is)
    (case a26 => k_is)
    (case l26 => k_is)
    (case c26 => k_is)
    (case k26 => k_is)
    (case a27 => k_is)
    (case l27 => k_is)
    (case c27 => k_is)
    (case k27 => k_is)
    (case a28 => k_is)
    (case l28 => k_is)
    (case c28 => k_is)
    (case k28 => k_is)
    (case q0 => k_is)
    (case q1 => k_is)
    (case z0 => k_is)
    (case z1 => k_is)
    (case z2 => k_is)
    (case z3 => k_is)
    (case z4 => k_is)
    (case z5 => k_is)
    (case z6 => k_is)
    (case z7 => k_is)
    (case z8 => k_is)
    (case z9 => k_is)
    (case z10 => k_is)
    (case z11 => k_is)
    (case z12 => k_is)
    (case z13 => k_is)
    (case z14 => k_is)
    (case z15 => k_is)
end
