import PyProof.Rows.All
import HandS.ForMost
import HandS.Words
import HandS.Codes
import HandS.Ends
import HandS.Flow
import KE.DataEq
import KE.DataIsa
import KE.DataAny
import KE.DataMinMax
import KE.DataFind
import KE.SortData
import KE.LtData
import HandS.TupAny
import HandS.TupMul
import HandS.Wide
import HandS.Deep
import HandS.Style
import HandS.SortInts
import KE.KTupSum
import HandS.Zip
import HandS.Iter
import HandS.Comp
import KE.GoesEnum
import HandS.Small
import HandS.Conv
import KE.KRevSl
import KE.DatumOrd
import PyProof.ReprRoads
import PyProof.CallFns
import KE.KDictZip
import HandS.ListItems
import HandS.DictComp
import KE.GoesMore
import PySem.Challenge.RW_layerhouse_k84_whole_plans_of_hands
import Wide.All
import OpenK.AllK
import Wide.FinOn
section
set_option Elab.async false
set_option linter.all false
set_option maxRecDepth 100000
set_option maxHeartbeats 4000000
/-! PDG: promises of defs where it is known that no repr is under way (the guards of the place are told). -/
namespace PD
open PySem PySem.Spec PyProof.Rows L2

structure RoomG (k : Nat) (A : Around) : Prop where
  r : Room k A
  g : A.guards = some []
theorem RoomG.mono {j k : Nat} {A : Around} (h : RoomG k A) (l : j ≤ k) : RoomG j A := ⟨h.r.mono l, h.g⟩
theorem RoomG.down {k : Nat} {A : Around} (h : RoomG (k + 1) A) (env : Env) : RoomG k (A.deeper env) := ⟨h.r.deeper env, h.g⟩
structure FnG (P : Program) (w : World) (K : PySem.W.Frag) (mg : Str → Option Value) (base : Heap) (CX : CXT) (k : Nat) (f : Addr) (fd : FuncData) (ps : List Str) (sp : Sp) : Prop where
  ln : ∀ xs H Q E, sp xs H Q E → xs.length = ps.length
  go : ∀ (A : Around) (up : List Env) (s : Shared) (H : Hp) (g : Args) (us : List Value) (xs : List V) (Q : VK) (E : XK), RoomG k A → Env0 P w K mg base A up s H → BindsTo s fd g (ps.zip us) → Vals xs us → sp xs H Q E →
    codeAny (model P w) A (.call (.ref f) g) (CR CX up P w H s Q E) s
section
variable {P : Program} {w : World} {K : PySem.W.Frag} {mg : Str → Option Value} {base : Heap} {CX : CXT} {f : Addr} {fd : FuncData} {ps : List Str} {sp : Sp}
theorem FnG.mono {j k : Nat} (F : FnG P w K mg base CX j f fd ps sp) (l : j ≤ k) : FnG P w K mg base CX k f fd ps sp := ⟨F.ln, fun A up s H g us xs Q E h => F.go A up s H g us xs Q E (h.mono l)⟩
theorem FnG.imp {k : Nat} {sp' : Sp} (F : FnG P w K mg base CX k f fd ps sp) (l : ∀ xs H Q E, sp' xs H Q E → sp xs H Q E) : FnG P w K mg base CX k f fd ps sp' :=
  ⟨fun xs H Q E q => F.ln _ _ _ _ (l _ _ _ _ q), fun A up s H g us xs Q E h e b r q => F.go A up s H g us xs Q E h e b r (l _ _ _ _ q)⟩
end
section
variable {X : Cx} {CX : CXT} {k : Nat} {f : Addr} {fd : FuncData} {ps : List Str} {sp : Sp} {us0 : List V} {ws : List Value} {E : XK} {x : Str} {p pos : Pos} {e : Expr} {es : List Expr} {t : TA}
/-- the called def's run -/
theorem run_g {pins : List (Addr × Obj)} {σ : L2.St} {H : Hp} {s : Shared} {Q : VK} {us : List Value} {xs : List V} (F : FnG X.prog X.w X.K X.mg X.base CX k f fd ps sp) (hr : RoomG k X.A) (hb : Binds X.K fd ps ws) (hd : Vals us0 ws) (hx : Passes CX X E)
    (I : Inv X pins σ H s) (r : Vals xs us) (q : sp (xs ++ us0) H Q E) : wpAny (model X.prog X.w) X.A (call (.ref f) us) (EP X pins σ Q) X.xe s := by
  have rv := r.append hd
  have ln : (us ++ ws).length = ps.length := rv.length.symm.trans (F.ln _ _ _ _ q)
  refine wpAny_call (codeAny_mono (F.go X.A X.stack s H ⟨us, []⟩ (us ++ ws) (xs ++ us0) Q E hr I.env0 (hb s us I.kIn ln) rv q) fun z s2 hz => ?_)
  match z, hz with
  | .error e, hz => exact hx pins σ H s e s2 I hz
  | .ok (.ret u), hz => exact I.after hz
theorem pe_callG (F : FnG X.prog X.w X.K X.mg X.base CX k f fd ps sp) (hr : RoomG k X.A) (hg : Gl X x) (hm : X.mg x = some (.ref f)) (hk : PySem.W.keepIn X.K (.ref f) = true) (hb : Binds X.K fd ps ws) (hd : Vals us0 ws) (hx : Passes CX X E)
    (ha : PA X (e :: es) t) (hdb : (x == ("__debug__" : Str)) = false := by decide) (he : starEach (e :: es) X.env = (false, eval e X.env) :: starEach es X.env := by rfl) (hpl : (backTo pos (starEach es X.env)).any (·.1) = false := by rfl) :
    PE X (.Call (.Name x p) (e :: es) [] pos) (tCall sp us0 E t) :=
  ⟨fun pins s σ H Q I q => wpAny_Call_Name_kw (ld_glob I hg hm (PySem.W.callWith_K (h₀ := X.base) I.ok.mod.kin hk (thn (ha.run pos pins s σ H _ I q) fun us s1 ⟨_, _, I1, r1, q1⟩ => ⟨I1.kIn, run_g F hr hb hd hx I1 r1 q1⟩) he hpl) hdb)⟩
end
section
variable {P : Program} {w : World} {K : PySem.W.Frag} {mg : Str → Option Value} {base : Heap}
/-- a def, by its body -/
theorem Fun.okG {CX : CXT} {x qual : Str} {st : Stmt} {f : Addr} {fd : FuncData} {N ps : List Str} {k : Nat} {sp : Sp} (F : L2.Fun K x qual st f fd) (S : FnScope N ps (defScope st)) (ln : ∀ xs H Q E, sp xs H Q E → xs.length = ps.length)
    (body : ∀ (cdv : Value) (A : Around) (up : List Env) (s : Shared) (H : Hp) (xs : List V) (Q : VK) (E : XK), RoomG k (A.deeper (envOfC qual (defScope st) s.heap.objs.size f cdv)) → sp xs H Q E →
      ∃ t, PSs (cxOf CX P w K mg base N qual (defScope st) f cdv A up s H E) (defBody st) t ∧ t { nx := fun _ H' => Q .non H', rt := Q } (start N xs) H) : FnG P w K mg base CX (k + 1) f fd ps sp := by
  obtain ⟨oc, od, kV, dc, pm, an, cdv, ct, sl, rfl, lk, hcd⟩ := F.ex
  refine ⟨ln, fun A up s H g us xs Q E hr e0 hb rv q => ?_⟩
  have old : ∀ b o, base.get? b = some o → s.heap.get? b = some o := fun b o e => (e0.bs b o e).1
  have inK : K.In s.heap := e0.mod.kin.keeps old
  have nl : s.heap.NoLimit := e0.mod.nolimit.keeps old
  have kd : ∀ y ∈ ps.zip us, (defScope st).names.lookup y.1 = some .local ∨ ((defScope st).names.lookup y.1 = some .cell ∧ ((cellsFrom (s.heap.objs.size + 1) (defScope st).names []).lookup y.1).isSome = true) := by
    rintro ⟨n, v⟩ hy
    rcases S.par n (List.of_mem_zip hy).1 with z | z
    · exact Or.inl z
    · exact Or.inr ⟨z, PySem.W.cellsFrom_some _ _ _ (Or.inl z)⟩
  refine codeAny_call_function hr.r.depth (inK _ _ lk) rfl S.co S.gen rfl (PySem.W.codeRec_of inK hcd) (hb _ _ _ _ (wpAny_newFunctionEnv_cells S.kind kd fun env he s1 y => ?_))
  subst he
  refine ⟨nl.keeps y.toInCall.keep, codeAny_func ?_⟩
  obtain ⟨t, ht, hq⟩ := body cdv A up s H xs Q E (hr.down _) q
  have J := inv_start (CX := CX) (E := E) S hr.r.hd e0 (ln _ _ _ _ q) rv y
  refine wpAny_mono (ht.run [] s1 (start N xs) H _ J hq) (fun z s2 hz => ?_) fun e s2 hz => hz
  match z, hz with
  | .ret u, ⟨v, σ2, H2, J2, r2, q2⟩ => exact ⟨v, H2, J2.os, J2.bare, J2.base, J2.hok, r2, q2⟩
  | .next, ⟨σ2, H2, J2, q2⟩ => exact ⟨.non, H2, J2.os, J2.bare, J2.base, J2.hok, rfl, q2⟩
  | .brk, ⟨_, _, _, z⟩ => exact z.elim
  | .cont, ⟨_, _, _, z⟩ => exact z.elim
end
/-- the law's own def, called from the top -/
theorem law_callG {P : Program} {w : World} {K : PySem.W.Frag} {mg mb : Str → Option Value} {CX : CXT} {k : Nat} {fa a : Addr} {fd : FuncData} {x : Str} {sp : Sp} {s1 : Shared} {us : List Value} {ns : List Int}
    (inK : K.In s1.heap) (hns : s1.heap.Ns mainGlobals mg) (hb : s1.heap.Ns builtinsNs mb) (hbb : ∀ x : Str, x ≠ "__name__" → mb x = bootBuiltins x) (nl : s1.heap.NoLimit) (hg : s1.gens = #[])
    (ha : s1.heap.get? a = some { cls := .type "list", data := .seq us.toArray }) (hi : IntsAre us ns) (hl : ns.length ≤ sizeLine) (hr : RoomG k callerA)
    (F : ∀ base : Heap, K.In base → base.Ns mainGlobals mg → FnG P w K mg base CX k fa fd [x] sp) (bind : ∀ (s : Shared) (u : Value), BindsTo s fd ⟨[u], []⟩ [(x, u)])
    (hsp : ∀ H : Hp, Only H → SqL K H a (ns.map V.int) → sp [.ref a] H (fun v _ => v = .bl true) fun _ _ _ => False)
    (hCX : ∀ H e s', CX [] H s1 (fun _ _ _ => False) e s' → False) :
    codeAny (model P w) callerA (.call (.ref fa) ⟨[.ref a], []⟩) (fun r s2 => r = .ok (.ret (.bool true)) ∧ OldK s1.heap s2.heap ∧ s2.os = s1.os ∧ AllBare s2.gens) s1 := by
  have rv := vals_ints hi
  have lu : us.length = ns.length := hi.length
  obtain ⟨H, hO, hS, hok, hA, hK⟩ : ∃ H : Hp, Only H ∧ SqL K H a (ns.map V.int) ∧ HOk P w H s1.heap ∧ (∀ b, H b ≠ none → b = a) ∧ (H a ≠ none → K.lookup a = none) := by
    cases hk : K.lookup a with
    | some o =>
      have eo : o = { cls := .type "list", data := .seq us.toArray } := Option.some.inj ((inK a o hk).symm.trans ha)
      subst eo
      have h1 : HOk P w (fun _ => none) s1.heap := fun b u z => by cases z
      have h2 : SqL K (fun _ => none) a (ns.map V.int) := Or.inr ⟨_, us.toArray, _, hk, rfl, rfl, rfl, by rw [List.size_toArray, lu]; exact hl, by simpa using rv⟩
      exact ⟨fun _ => none, fun _ => Or.inl rfl, h2, h1, fun b z => (z rfl).elim, fun z => (z rfl).elim⟩
    | none =>
      let ob : Obj := { cls := .type "list", data := .seq us.toArray }
      have at1 : (fun b => if b = a then some (HO.frz ob (.lst (ns.map V.int))) else none : Hp) a = some (.frz ob (.lst (ns.map V.int))) := if_pos rfl
      have only1 : ∀ b u, (fun b => if b = a then some (HO.frz ob (.lst (ns.map V.int))) else none : Hp) b = some u → b = a ∧ u = .frz ob (.lst (ns.map V.int)) := fun b u z => by
        by_cases e : b = a
        · exact ⟨e, (Option.some.inj ((if_pos e).symm.trans z)).symm⟩
        · exact nomatch (if_neg e).symm.trans z
      refine ⟨fun b => if b = a then some (.frz ob (.lst (ns.map V.int))) else none, fun b => ?_, Or.inl (Or.inr ⟨ob, at1⟩), fun b u z => ?_, fun b z => ?_, fun _ => rfl⟩
      · by_cases e : b = a
        · exact Or.inr ⟨ob, _, if_pos e⟩
        · exact Or.inl (if_neg e)
      · obtain ⟨e1, e2⟩ := only1 b u z
        subst e1 e2
        exact ⟨ha, by rw [List.length_map]; exact hl, us, _, rv, ha⟩
      · cases e : (fun b => if b = a then some (HO.frz ob (.lst (ns.map V.int))) else none : Hp) b with
        | none => exact absurd e z
        | some u => exact (only1 b u e).1
  have keep : ∀ {b : Addr} {o : Obj}, s1.heap.get? b = some o → H b = none → (hidT s1.heap H).get? b = some o := fun e n => hidT_get e n
  have isD : ∀ {b : Addr} {o : Obj} {es : Array DictEntry} {ep : Nat}, s1.heap.get? b = some o → o.data = .dict es ep → H b = none := fun {b o es ep} e d => by
    cases q : H b with
    | none => rfl
    | some u =>
      have eb := hA b (fun z => by rw [z] at q; cases q)
      rw [eb, ha] at e
      cases e
      cases d
  have nsK : ∀ {b : Addr} {m : Str → Option Value}, s1.heap.Ns b m → (hidT s1.heap H).Ns b m := by
    rintro b m ⟨o, es, ep, e, d, r⟩
    exact ⟨o, es, ep, keep e (isD e d), d, r⟩
  have inB : K.In (hidT s1.heap H) := fun b o e => keep (inK b o e) (by
    cases q : H b with
    | none => rfl
    | some u =>
      have eb := hA b (fun z => by rw [z] at q; cases q)
      subst eb
      exact nomatch (hK (fun z => by rw [z] at q; cases q)).symm.trans e)
  obtain ⟨ml, nl1, nl2⟩ := nl
  have e0 : Env0 P w K mg (hidT s1.heap H) callerA [] s1 H :=
    ⟨rfl, ⟨inB, nsK hns, ⟨mb, nsK hb, hbb⟩, ⟨ml, nsK nl1, nl2⟩⟩, fun b o e => of_hidT e, Nat.le_of_eq (hidT_size _ _), trivial, (fun b z => nomatch z), hok, .of_eq hg⟩
  refine codeAny_mono ((F _ inB (nsK hns)).go callerA [] s1 H ⟨[.ref a], []⟩ [.ref a] [.ref a] _ _ hr e0 (bind s1 (.ref a)) (.cons rfl .nil) (hsp H hO hS)) fun z s2 hz => ?_
  match z, hz with
  | .error e, hz => exact (hCX H e s2 hz).elim
  | .ok (.ret u), ⟨v, H2, os, bare, un, hok2, r2, q2⟩ =>
    have q2 : v = .bl true := q2
    subst q2
    have eu : u = Value.bool true := r2
    subst eu
    refine ⟨rfl, OldK.of_keep fun b o e => ?_, os, bare⟩
    cases q : H b with
    | none => exact un.keep b o e q (fun z => nomatch z) (fun z => nomatch z)
    | some u =>
      rcases hO b with z | ⟨ob, xs, z⟩
      · exact nomatch q.symm.trans z
      · have e1 := (hok b _ z).1
        have e2 := (hok2 b _ (un.frzs b ob _ z)).1
        rw [Option.some.inj (e.symm.trans e1)]
        exact e2
theorem walk_g {l : PySem.W.OpenLaw} {n k : Nat} {q : Program} {loose : List Str} {XP : (Str → Option Value) → Heap → Prop} {YP : World → Heap → Prop} {d : DefRec} {K : Params → PySem.W.Frag} {CX : World → CXT} {sp : World → Sp} {x : Str}
    (hn : l.most = some n) (hn2 : n ≤ sizeLine) (hdf : d.params.defaults = []) (hr : RoomG k callerA) (hY : ∀ (w : World) (h : Heap), YP w h → (K w.params).In h)
    (F : ∀ (w : World) (mg : Str → Option Value) (fa : Addr) (h : Heap), (K w.params).In h → h.Ns mainGlobals mg → mg d.name = some (.ref fa) →
      ∃ fd : FuncData, (∀ (s : Shared) (u : Value), BindsTo s fd ⟨[u], []⟩ [(x, u)]) ∧ ∀ base : Heap, (K w.params).In base → base.Ns mainGlobals mg → FnG l.prog w (K w.params) mg base (CX w) k fa fd [x] (sp w))
    (hsp : ∀ (w : World) (H : Hp) (a : Addr) (ns : List Int), ns.length ≤ n → Only H → SqL (K w.params) H a (ns.map V.int) → sp w [.ref a] H (fun v _ => v = .bl true) fun _ _ _ => False)
    (hCX : ∀ (w : World) (H : Hp) (s : Shared) (e : Value) (s' : Shared), CX w [] H s (fun _ _ _ => False) e s' → False) :
    PySem.W.WalkO q loose XP YP l.row.toRowW d [] (fun f vs => PySem.call f vs) := by
  refine Att.attach_call hn hdf fun w s0 s1 mg mb fa o pm cd doc a us ns G Y ho hd hcd hmg hobj hints hlen hg => ?_
  obtain ⟨fd, hb, hF⟩ := F w mg fa _ (hY w _ Y) G.T.g hmg
  exact law_callG (hY w _ Y) G.T.g G.T.b G.T.builtins G.T.nolimit hg hobj hints (Nat.le_trans hlen hn2) hr hF hb (fun H => hsp w H a ns hlen) fun H e s2 => hCX w H s1 e s2
theorem roomG_caller : RoomG 20 callerA := ⟨⟨rfl, by decide, by decide⟩, rfl⟩
end PD
end
section
set_option Elab.async false
set_option linter.all false
set_option maxRecDepth 100000
set_option maxHeartbeats 4000000
/-! PD: plain data. What a value is as data in an abstract heap, where some addresses are OWNED (O): lists and dicts that only one name holds. -/
namespace PD
open PySem PySem.Spec PyProof.Rows L2

abbrev Ow := Addr → Prop
/-- something stands there, and it is no tuple -/
def NT : Option HO → Prop
  | none => False
  | some (.tup _) => False
  | _ => True
theorem NT.ne {x : Option HO} (h : NT x) : x ≠ none := fun e => by rw [e] at h; exact h

/-- a key as data -/
def keyD : Key → PyData
  | .inl i => .int i
  | .inr x => .str x
def keysD (l : List Key) : PyData := .tuple (l.map keyD)
/-- a dict as data: ahead stands of which kind its keys are (true: tuples) -/
def dicD (t : Bool) (ds : List (PyData × PyData)) : PyData := .dict ((.bool t, .none) :: ds)

def SqLo (O : Ow) (H : Hp) (a : Addr) (xs : List V) : Prop := ¬ O a ∧ H a = some (.lst xs)
def SqTo (O : Ow) (H : Hp) (a : Addr) (xs : List V) : Prop := ¬ O a ∧ H a = some (.tup xs)
theorem SqLo.sq {K : PySem.W.Frag} {O : Ow} {H : Hp} {a : Addr} {xs : List V} (h : SqLo O H a xs) : SqL K H a xs := .inl (.inl h.2)
theorem SqTo.sq {K : PySem.W.Frag} {O : Ow} {H : Hp} {a : Addr} {xs : List V} (h : SqTo O H a xs) : SqT K H a xs := .inl (.inl h.2)

mutual
inductive At (K : PySem.W.Frag) (O : Ow) (H : Hp) : V → PyData → Prop
  | non : At K O H .non .none
  | bl (b : Bool) : At K O H (.bl b) (.bool b)
  | int (i : Int) : At K O H (.int i) (.int i)
  | str (x : Str) : At K O H (.str x) (.str x)
  | lst {a : Addr} {xs : List V} {ds : List PyData} : SqLo O H a xs → AtL K O H xs ds → At K O H (.ref a) (.list ds)
  | tup {a : Addr} {xs : List V} {ds : List PyData} : SqTo O H a xs → AtL K O H xs ds → At K O H (.ref a) (.tuple ds)
  | dicK {a : Addr} {kvs : List (Key × V)} {ds : List (PyData × PyData)} : ¬ O a → Rd H a (.dK kvs) → AtK K O H kvs ds → At K O H (.ref a) (.dict ((.bool false, .none) :: ds))
  | dicT {a : Addr} {kvs : List (List Key × V)} {ds : List (PyData × PyData)} : ¬ O a → Rd H a (.dT kvs) → AtT K O H kvs ds → At K O H (.ref a) (.dict ((.bool true, .none) :: ds))
inductive AtL (K : PySem.W.Frag) (O : Ow) (H : Hp) : List V → List PyData → Prop
  | nil : AtL K O H [] []
  | cons {v : V} {vs : List V} {d : PyData} {ds : List PyData} : At K O H v d → AtL K O H vs ds → AtL K O H (v :: vs) (d :: ds)
inductive AtK (K : PySem.W.Frag) (O : Ow) (H : Hp) : List (Key × V) → List (PyData × PyData) → Prop
  | nil : AtK K O H [] []
  | cons {k : Key} {v : V} {vs : List (Key × V)} {d : PyData} {ds : List (PyData × PyData)} : At K O H v d → AtK K O H vs ds → AtK K O H ((k, v) :: vs) ((keyD k, d) :: ds)
inductive AtT (K : PySem.W.Frag) (O : Ow) (H : Hp) : List (List Key × V) → List (PyData × PyData) → Prop
  | nil : AtT K O H [] []
  | cons {k : List Key} {v : V} {vs : List (List Key × V)} {d : PyData} {ds : List (PyData × PyData)} : At K O H v d → AtT K O H vs ds → AtT K O H ((k, v) :: vs) ((keysD k, d) :: ds)
end

/-- what is not owned stays, and nothing that stood becomes owned -/
structure Kp (O : Ow) (H : Hp) (O' : Ow) (H' : Hp) : Prop where
  st : ∀ a o, H a = some o → ¬ O a → H' a = some o
  ow : ∀ a, ¬ O a → H a ≠ none → ¬ O' a
theorem Kp.refl {O : Ow} {H : Hp} : Kp O H O H := ⟨fun _ _ h _ => h, fun _ h _ => h⟩
theorem Kp.trans {O O1 O2 : Ow} {H H1 H2 : Hp} (a : Kp O H O1 H1) (b : Kp O1 H1 O2 H2) : Kp O H O2 H2 :=
  ⟨fun c o h n => b.st c o (a.st c o h n) (a.ow c n (by rw [h]; exact fun z => nomatch z)), fun c n h => b.ow c (a.ow c n h) (by
    cases e : H c with
    | none => exact absurd e h
    | some o => rw [a.st c o e n]; exact fun z => nomatch z)⟩

section
variable {K : PySem.W.Frag} {O O' : Ow} {H H' : Hp}
theorem Kp.rd (k : Kp O H O' H') {a : Addr} {u : HO} (n : ¬ O a) (r : Rd H a u) : Rd H' a u := by
  rcases r with r | ⟨o, r⟩
  · exact .inl (k.st a _ r n)
  · exact .inr ⟨o, k.st a _ r n⟩
theorem Rd.some {a : Addr} {u : HO} (r : Rd H a u) : H a ≠ none := by
  rcases r with r | ⟨o, r⟩ <;> rw [r] <;> exact fun z => nomatch z
theorem Kp.sqL (k : Kp O H O' H') {a : Addr} {xs : List V} (h : SqLo O H a xs) : SqLo O' H' a xs := ⟨k.ow _ h.1 (by rw [h.2]; exact fun z => nomatch z), k.st _ _ h.2 h.1⟩
theorem Kp.sqT (k : Kp O H O' H') {a : Addr} {xs : List V} (h : SqTo O H a xs) : SqTo O' H' a xs := ⟨k.ow _ h.1 (by rw [h.2]; exact fun z => nomatch z), k.st _ _ h.2 h.1⟩
mutual
theorem At.kp (k : Kp O H O' H') : ∀ (d : PyData) (v : V), At K O H v d → At K O' H' v d
  | .none, _, h => by cases h; exact .non
  | .bool _, _, h => by cases h; exact .bl _
  | .int _, _, h => by cases h; exact .int _
  | .str _, _, h => by cases h; exact .str _
  | .list ds, _, h => by
    cases h with
    | lst s l => exact .lst (k.sqL s) (AtL.kp k ds _ l)
  | .tuple ds, _, h => by
    cases h with
    | tup s l => exact .tup (k.sqT s) (AtL.kp k ds _ l)
  | .dict (_ :: ds), _, h => by
    cases h with
    | dicK n s l => exact .dicK (k.ow _ n (Rd.some s)) (k.rd n s) (AtK.kp k ds _ l)
    | dicT n s l => exact .dicT (k.ow _ n (Rd.some s)) (k.rd n s) (AtT.kp k ds _ l)
  | .dict [], _, h => by cases h
theorem AtL.kp (k : Kp O H O' H') : ∀ (ds : List PyData) (vs : List V), AtL K O H vs ds → AtL K O' H' vs ds
  | [], _, h => by cases h; exact .nil
  | d :: ds, _, h => by
    cases h with
    | cons h1 h2 => exact .cons (At.kp k d _ h1) (AtL.kp k ds _ h2)
theorem AtK.kp (k : Kp O H O' H') : ∀ (ds : List (PyData × PyData)) (vs : List (Key × V)), AtK K O H vs ds → AtK K O' H' vs ds
  | [], _, h => by cases h; exact .nil
  | (_, d) :: ds, _, h => by
    cases h with
    | cons h1 h2 => exact .cons (At.kp k d _ h1) (AtK.kp k ds _ h2)
theorem AtT.kp (k : Kp O H O' H') : ∀ (ds : List (PyData × PyData)) (vs : List (List Key × V)), AtT K O H vs ds → AtT K O' H' vs ds
  | [], _, h => by cases h; exact .nil
  | (_, d) :: ds, _, h => by
    cases h with
    | cons h1 h2 => exact .cons (At.kp k d _ h1) (AtT.kp k ds _ h2)
end
theorem At.to (k : Kp O H O' H') {d : PyData} {v : V} (h : At K O H v d) : At K O' H' v d := At.kp k d v h
theorem AtL.to (k : Kp O H O' H') {d : List PyData} {v : List V} (h : AtL K O H v d) : AtL K O' H' v d := AtL.kp k d v h
theorem AtK.to (k : Kp O H O' H') {d : List (PyData × PyData)} {v : List (Key × V)} (h : AtK K O H v d) : AtK K O' H' v d := AtK.kp k d v h
theorem AtT.to (k : Kp O H O' H') {d : List (PyData × PyData)} {v : List (List Key × V)} (h : AtT K O H v d) : AtT K O' H' v d := AtT.kp k d v h
/-- fewer are owned -/
theorem Kp.less (h : ∀ a, O' a → O a) : Kp O H O' H := ⟨fun _ _ h _ => h, fun a n _ z => n (h a z)⟩
/-- a new object -/
theorem Kp.new {p : Addr} {o : HO} (hp : H p = none) : Kp O H O (upd H p o) := ⟨fun a u e _ => by rw [upd_ne (ne_of_none e hp)]; exact e, fun _ n _ => n⟩
theorem AtL.length {vs : List V} {ds : List PyData} : ∀ {vs : List V} {ds : List PyData}, AtL K O H vs ds → vs.length = ds.length
  | _, _, .nil => rfl
  | _, _, .cons _ t => by rw [List.length_cons, List.length_cons, AtL.length (vs := vs) (ds := ds) t]
theorem AtL.len {vs : List V} {ds : List PyData} (h : AtL K O H vs ds) : vs.length = ds.length := AtL.length (vs := vs) (ds := ds) h
theorem AtL.get : ∀ {vs : List V} {ds : List PyData} {i : Nat} {v : V}, AtL K O H vs ds → vs[i]? = some v → ∃ d, ds[i]? = some d ∧ At K O H v d
  | _, _, _, _, .nil, e => by simp at e
  | _, _, 0, _, .cons r _, e => by simp at e; subst e; exact ⟨_, rfl, r⟩
  | _, _, i + 1, v, .cons _ t, e => by
    obtain ⟨d, h1, h2⟩ := AtL.get (i := i) (v := v) t (by simpa using e)
    exact ⟨d, by simpa using h1, h2⟩
theorem AtL.get' : ∀ {vs : List V} {ds : List PyData} {i : Nat} {d : PyData}, AtL K O H vs ds → ds[i]? = some d → ∃ v, vs[i]? = some v ∧ At K O H v d
  | _, _, _, _, .nil, e => by simp at e
  | _, _, 0, _, .cons r _, e => by simp at e; subst e; exact ⟨_, rfl, r⟩
  | _, _, i + 1, v, .cons _ t, e => by
    obtain ⟨d, h1, h2⟩ := AtL.get' (i := i) (d := v) t (by simpa using e)
    exact ⟨d, by simpa using h1, h2⟩
theorem AtL.append : ∀ {vs ws : List V} {ds es : List PyData}, AtL K O H vs ds → AtL K O H ws es → AtL K O H (vs ++ ws) (ds ++ es)
  | _, _, _, _, .nil, s => s
  | _, _, _, _, .cons r t, s => .cons r (AtL.append t s)
theorem AtL.set : ∀ {vs : List V} {ds : List PyData} (i : Nat) {v : V} {d : PyData}, AtL K O H vs ds → At K O H v d → AtL K O H (vs.set i v) (ds.set i d)
  | _, _, _, _, _, .nil, _ => .nil
  | _, _, 0, _, _, .cons _ t, r => .cons r t
  | _, _, i + 1, _, _, .cons q t, r => .cons q (AtL.set i t r)
theorem AtL.take : ∀ {vs : List V} {ds : List PyData} (n : Nat), AtL K O H vs ds → AtL K O H (vs.take n) (ds.take n)
  | _, _, 0, _ => .nil
  | _, _, _ + 1, .nil => .nil
  | _, _, n + 1, .cons r t => .cons r (AtL.take n t)
theorem AtL.drop : ∀ {vs : List V} {ds : List PyData} (n : Nat), AtL K O H vs ds → AtL K O H (vs.drop n) (ds.drop n)
  | _, _, 0, r => r
  | _, _, _ + 1, .nil => .nil
  | _, _, n + 1, .cons r t => AtL.drop n t
theorem AtL.reverse {vs : List V} {ds : List PyData} (h : AtL K O H vs ds) : AtL K O H vs.reverse ds.reverse := by
  induction vs generalizing ds with
  | nil => cases h; exact .nil
  | cons v vs ih =>
    cases h with
    | cons r t => rw [List.reverse_cons, List.reverse_cons]; exact (ih t).append (.cons r .nil)
theorem AtL.eraseIdx : ∀ {vs : List V} {ds : List PyData} (i : Nat), AtL K O H vs ds → AtL K O H (vs.eraseIdx i) (ds.eraseIdx i)
  | _, _, _, .nil => .nil
  | _, _, 0, .cons _ t => t
  | _, _, i + 1, .cons q t => .cons q (AtL.eraseIdx i t)
end

/-! ### what Reads asks -/
section
variable {X : Cx} {pins : List (Addr × Obj)} {σ : L2.St} {H : Hp} {s : Shared} {O : Ow}
theorem kvs_keys : ∀ {kvs : List (Key × V)} {vs : List (Key × Value)}, KV kvs vs → kvs.map (·.1) = vs.map (·.1)
  | _, _, .nil => rfl
  | _, _, .cons r t => by rw [List.map_cons, List.map_cons, r.1, kvs_keys t]
mutual
theorem At.reads (I : Inv X pins σ H s) : ∀ (d : PyData) (v : V) (u : Value), d.plain = true → At X.K O H v d → RelV v u → ∃ as, Reads s.heap u d as
  | .none, _, _, _, h, r => by cases h; cases r; exact ⟨_, Reads.none⟩
  | .bool b, _, _, _, h, r => by cases h; cases r; exact ⟨_, Reads.bool b⟩
  | .int i, _, _, _, h, r => by cases h; obtain ⟨t, rfl⟩ := r; exact ⟨_, Reads.int i t⟩
  | .str x, _, _, _, h, r => by cases h; obtain ⟨t, rfl⟩ := r; exact ⟨_, Reads.str x t⟩
  | .list ds, _, _, hd, h, r => by
    cases h with
    | lst hs ha =>
      cases r
      obtain ⟨its, rv, ⟨o, n, ho, hc, _, hd'⟩, _⟩ := I.list hs.sq
      obtain ⟨as, hr⟩ := AtL.reads I ds _ its (by simpa [PyData.plain] using hd) ha rv
      exact ⟨_, Reads.list ho hc hd' hr⟩
  | .tuple ds, _, _, hd, h, r => by
    cases h with
    | tup hs ha =>
      cases r
      obtain ⟨its, rv, ⟨o, ho, hc, n, hd'⟩, _⟩ := I.tuple hs.sq
      obtain ⟨as, hr⟩ := AtL.reads I ds _ its (by simpa [PyData.plain] using hd) ha rv
      exact ⟨_, Reads.tuple ho hc hd' hr⟩
  | .dict _, _, _, hd, h, _ => by simp [PyData.plain] at hd
theorem AtL.reads (I : Inv X pins σ H s) : ∀ (ds : List PyData) (vs : List V) (us : List Value), PyData.plainAll ds = true → AtL X.K O H vs ds → Vals vs us → ∃ as, ReadsAll s.heap us ds as
  | [], _, _, _, h, r => by cases h; cases r; exact ⟨_, ReadsAll.nil⟩
  | d :: ds, _, _, hd, h, r => by
    cases h with
    | cons h1 h2 =>
      cases r with
      | cons r1 r2 =>
        have e : d.plain = true ∧ PyData.plainAll ds = true := by simpa [PyData.plainAll] using hd
        obtain ⟨as, q1⟩ := At.reads I d _ _ e.1 h1 r1
        obtain ⟨bs, q2⟩ := AtL.reads I ds _ _ e.2 h2 r2
        exact ⟨_, ReadsAll.cons q1 q2⟩
end
end
end PD
end
section
set_option Elab.async false
set_option linter.all false
set_option maxRecDepth 100000
set_option maxHeartbeats 4000000
/-! PD2: the pure state of a body (slots, the hand's content), the judgements over it. -/
namespace PD
open PySem PySem.Spec PyProof.Rows L2

/-- a slot: unknown; data (shared, never changed); data that this name alone holds; data that an outer frame holds; the hand -/
inductive Sl where
  | no | v (d : PyData) | m (d : PyData) | b (d : PyData) | h
structure PSt where
  G : List Sl
  hd : List PyData

/-- what stays through a body: the module's facts, the hand's place, the heap and the owned ones at the entry -/
structure Pm where
  ha : Option Addr
  H0 : Hp
  O0 : Ow

inductive Own (K : PySem.W.Frag) (O : Ow) (H : Hp) (a : Addr) : PyData → Prop
  | lst {xs : List V} {ds : List PyData} : H a = some (.lst xs) → AtL K O H xs ds → Own K O H a (.list ds)
  | dicK {kvs : List (Key × V)} {ds : List (PyData × PyData)} : H a = some (.dK kvs) → AtK K O H kvs ds → Own K O H a (dicD false ds)
  | dicT {kvs : List (List Key × V)} {ds : List (PyData × PyData)} : H a = some (.dT kvs) → AtT K O H kvs ds → Own K O H a (dicD true ds)
/-- .. a dict of which may be under a lock -/
inductive OwnR (K : PySem.W.Frag) (O : Ow) (H : Hp) (a : Addr) : PyData → Prop
  | lst {xs : List V} {ds : List PyData} : H a = some (.lst xs) → AtL K O H xs ds → OwnR K O H a (.list ds)
  | dicK {kvs : List (Key × V)} {ds : List (PyData × PyData)} : Rd H a (.dK kvs) → AtK K O H kvs ds → OwnR K O H a (dicD false ds)
  | dicT {kvs : List (List Key × V)} {ds : List (PyData × PyData)} : Rd H a (.dT kvs) → AtT K O H kvs ds → OwnR K O H a (dicD true ds)
theorem Own.r {K : PySem.W.Frag} {O : Ow} {H : Hp} {a : Addr} {d : PyData} (h : Own K O H a d) : OwnR K O H a d := by
  cases h with
  | lst q l => exact .lst q l
  | dicK q l => exact .dicK (.inl q) l
  | dicT q l => exact .dicT (.inl q) l
/-- a value to be read: data, or an owned one -/
def AtE (K : PySem.W.Frag) (O : Ow) (H : Hp) (v : V) (d : PyData) : Prop := At K O H v d ∨ ∃ a, v = .ref a ∧ OwnR K O H a d

def SlOk (K : PySem.W.Frag) (p : Pm) (O : Ow) (H : Hp) (x : Option (Option V)) : Sl → Prop
  | .no => True
  | .v d => ∃ y, x = some (some y) ∧ At K O H y d
  | .m d => ∃ a, x = some (some (.ref a)) ∧ O a ∧ p.H0 a = none ∧ p.ha ≠ some a ∧ Own K O H a d
  | .b d => ∃ a, x = some (some (.ref a)) ∧ p.H0 a ≠ none ∧ p.ha ≠ some a ∧ OwnR K O H a d
  | .h => ∃ a, p.ha = some a ∧ x = some (some (.ref a))

structure Rl (K : PySem.W.Frag) (p : Pm) (O : Ow) (σ : L2.St) (H : Hp) (s : PSt) : Prop where
  len : s.G.length = σ.length
  sl : ∀ (i : Nat) (S : Sl), s.G[i]? = some S → SlOk K p O H (σ[i]?) S
  inj : ∀ (i j : Nat) (d d' : PyData) (a : Addr), s.G[i]? = some (.m d) → s.G[j]? = some (.m d') → σ[i]? = some (some (.ref a)) → σ[j]? = some (some (.ref a)) → i = j
  hand : ∀ a, p.ha = some a → O a ∧ ∃ xs, H a = some (.lst xs) ∧ AtL K O H xs s.hd
  frm : ∀ a o, p.H0 a = some o → p.ha ≠ some a → H a = some o
  dom : ∀ a, O a → NT (H a)
  o0 : ∀ a, p.O0 a → O a
  od : ∀ a, p.O0 a → p.H0 a ≠ none
  ob : ∀ a, O a → p.H0 a ≠ none → p.O0 a

section
variable {K : PySem.W.Frag} {p : Pm} {O O' : Ow} {σ : L2.St} {H H' : Hp} {s : PSt} {v : V} {d : PyData} {a : Addr}
theorem Own.some (h : Own K O H a d) : H a ≠ none := by
  cases h with
  | lst e _ => rw [e]; exact fun z => nomatch z
  | dicK e _ => rw [e]; exact fun z => nomatch z
  | dicT e _ => rw [e]; exact fun z => nomatch z
/-- the object itself stays, and what is not owned -/
theorem Own.to (k : Kp O H O' H') (e : H' a = H a) (h : Own K O H a d) : Own K O' H' a d := by
  cases h with
  | lst q l => exact .lst (e.trans q) (l.to k)
  | dicK q l => exact .dicK (e.trans q) (l.to k)
  | dicT q l => exact .dicT (e.trans q) (l.to k)
theorem Own.nt (h : Own K O H a d) : NT (H a) := by
  cases h with
  | lst e _ => rw [e]; exact True.intro
  | dicK e _ => rw [e]; exact True.intro
  | dicT e _ => rw [e]; exact True.intro
theorem OwnR.some (h : OwnR K O H a d) : H a ≠ none := by
  cases h with
  | lst e _ => rw [e]; exact fun z => nomatch z
  | dicK e _ => exact Rd.some e
  | dicT e _ => exact Rd.some e
theorem Rd.eq {H H' : Hp} {a : Addr} {u : HO} (e : H' a = H a) (r : Rd H a u) : Rd H' a u := by
  rcases r with r | ⟨o, r⟩
  · exact .inl (e.trans r)
  · exact .inr ⟨o, e.trans r⟩
theorem OwnR.to (k : Kp O H O' H') (e : H' a = H a) (h : OwnR K O H a d) : OwnR K O' H' a d := by
  cases h with
  | lst q l => exact .lst (e.trans q) (l.to k)
  | dicK q l => exact .dicK (Rd.eq e q) (l.to k)
  | dicT q l => exact .dicT (Rd.eq e q) (l.to k)
theorem OwnR.free (h : OwnR K O H a d) (n : ¬ O' a) (k : ∀ b, O' b → O b) : At K O' H (.ref a) d := by
  cases h with
  | lst q l => exact .lst ⟨n, q⟩ (l.to (Kp.less k))
  | dicK q l => exact .dicK n q (l.to (Kp.less k))
  | dicT q l => exact .dicT n q (l.to (Kp.less k))
/-- it is owned no more -/
theorem Own.free (h : Own K O H a d) (n : ¬ O' a) (k : ∀ b, O' b → O b) : At K O' H (.ref a) d := by
  cases h with
  | lst q l => exact .lst ⟨n, q⟩ (l.to (Kp.less k))
  | dicK q l => exact .dicK n (.inl q) (l.to (Kp.less k))
  | dicT q l => exact .dicT n (.inl q) (l.to (Kp.less k))
theorem AtE.at0 (h : AtE K O H v d) : At K (fun _ => False) H v d := by
  rcases h with h | ⟨a, rfl, h⟩
  · exact h.to (Kp.less fun _ z => z.elim)
  · exact h.free (fun z => z) (fun _ z => z.elim)

/-! ### a new object -/
theorem Rl.new {q : Addr} {o : HO} (r : Rl K p O σ H s) (hq : H q = none) : Rl K p O σ (upd H q o) s := by
  have k : Kp O H O (upd H q o) := Kp.new hq
  have stay : ∀ {b}, H b ≠ none → upd H q o b = H b := fun {b} n => upd_ne (fun e => n (by rw [e]; exact hq))
  refine ⟨r.len, fun i S e => ?_, r.inj, fun a e => ?_, fun a u e n => ?_, fun a z => by rw [stay (r.dom a z).ne]; exact r.dom a z, r.o0, r.od, r.ob⟩
  · have q1 := r.sl i S e
    cases S with
    | no => trivial
    | v d => obtain ⟨y, e1, e2⟩ := q1; exact ⟨y, e1, e2.to k⟩
    | m d => obtain ⟨a, e1, e2, e3, e4, e5⟩ := q1; exact ⟨a, e1, e2, e3, e4, e5.to k (stay e5.some)⟩
    | b d => obtain ⟨a, e1, e2, e3, e4⟩ := q1; exact ⟨a, e1, e2, e3, e4.to k (stay e4.some)⟩
    | h => exact q1
  · obtain ⟨e1, xs, e2, e3⟩ := r.hand a e
    refine ⟨e1, xs, ?_, e3.to k⟩
    rw [stay (by rw [e2]; exact fun z => nomatch z)]; exact e2
  · have := r.frm a u e n
    rw [stay (by rw [this]; exact fun z => nomatch z)]; exact this
/-- a new object, owned -/
def Ow.with (O : Ow) (q : Addr) : Ow := fun a => O a ∨ a = q
theorem Kp.newOwn {q : Addr} {o : HO} (hq : H q = none) : Kp O H (O.with q) (upd H q o) := ⟨fun a u e _ => by rw [upd_ne (ne_of_none e hq)]; exact e, fun a n h z => by
  rcases z with z | z
  · exact n z
  · subst z; exact h hq⟩
theorem Rl.newOwn {q : Addr} {o : HO} (r : Rl K p O σ H s) (hq : H q = none) (ho : NT (some o) := by exact True.intro) : Rl K p (O.with q) σ (upd H q o) s := by
  have k : Kp O H (O.with q) (upd H q o) := Kp.newOwn hq
  have stay : ∀ {b}, H b ≠ none → upd H q o b = H b := fun {b} n => upd_ne (fun e => n (by rw [e]; exact hq))
  refine ⟨r.len, fun i S e => ?_, r.inj, fun a e => ?_, fun a u e n => ?_, fun a z => ?_, fun a z => .inl (r.o0 a z), r.od, fun a z n => ?_⟩
  · have q1 := r.sl i S e
    cases S with
    | no => trivial
    | v d => obtain ⟨y, e1, e2⟩ := q1; exact ⟨y, e1, e2.to k⟩
    | m d => obtain ⟨a, e1, e2, e3, e4, e5⟩ := q1; exact ⟨a, e1, .inl e2, e3, e4, e5.to k (stay e5.some)⟩
    | b d => obtain ⟨a, e1, e2, e3, e4⟩ := q1; exact ⟨a, e1, e2, e3, e4.to k (stay e4.some)⟩
    | h => exact q1
  · obtain ⟨e1, xs, e2, e3⟩ := r.hand a e
    refine ⟨.inl e1, xs, ?_, e3.to k⟩
    rw [stay (by rw [e2]; exact fun z => nomatch z)]; exact e2
  · have := r.frm a u e n
    rw [stay (by rw [this]; exact fun z => nomatch z)]; exact this
  · rcases z with z | z
    · rw [stay (r.dom a z).ne]; exact r.dom a z
    · subst z; rw [upd_same]; exact ho
  · rcases z with z | z
    · exact r.ob a z n
    · subst z
      cases e : p.H0 a with
      | none => exact absurd e n
      | some u =>
        by_cases hh : p.ha = some a
        · obtain ⟨_, xs, e2, _⟩ := r.hand a hh
          rw [hq] at e2; cases e2
        · have := r.frm a u e hh
          rw [hq] at this; cases this
end

/-! ### judgements -/
/-- a pure expression: the state, what is wanted of the value and the state -/
abbrev PTE := PSt → (PyData → PSt → Prop) → Prop
def Mono (t : PTE) : Prop := ∀ s Q Q', (∀ d s', Q d s' → Q' d s') → t s Q → t s Q'
def lift (K : PySem.W.Frag) (t : PTE) : TE := fun σ H QV => ∃ p O s, Rl K p O σ H s ∧ t s fun d s' => ∀ v O' H', Rl K p O' σ H' s' → Kp O H O' H' → At K O' H' v d → QV v H'
/-- e's value is data, shared -/
structure DE (X : Cx) (e : Expr) (t : PTE) : Prop where
  pe : PE X e (lift X.K t)
  mono : Mono t
/-- the operand of a reading: data, or the slot that holds it -/
inductive Rv where
  | c (d : PyData) | s (i : Nat)
@[simp] def Sl.data : Sl → Option PyData
  | .v d => some d
  | .m d => some d
  | .b d => some d
  | _ => none
@[simp] def rd (s : PSt) : Rv → Option PyData
  | .c d => some d
  | .s i => s.G[i]?.bind Sl.data
abbrev PTL := PSt → (Rv → PSt → Prop) → Prop
def MonoL (t : PTL) : Prop := ∀ s Q Q', (∀ d s', Q d s' → Q' d s') → t s Q → t s Q'
def RvOk (K : PySem.W.Frag) (p : Pm) (O : Ow) (σ : L2.St) (H : Hp) (v : V) : Rv → Prop
  | .c d => At K O H v d
  | .s i => σ[i]? = some (some v)
def liftL (K : PySem.W.Frag) (t : PTL) : TE := fun σ H QV => ∃ p O s, Rl K p O σ H s ∧ t s fun d s' => ∀ v O' H', Rl K p O' σ H' s' → Kp O H O' H' → RvOk K p O' σ H' v d → QV v H'
structure DL (X : Cx) (e : Expr) (t : PTL) : Prop where
  pe : PE X e (liftL X.K t)
  mono : MonoL t
/-- e's value is new and held by nothing -/
def Lone (K : PySem.W.Frag) (p : Pm) (O : Ow) (σ : L2.St) (H : Hp) (s : PSt) (a : Addr) (d : PyData) : Prop :=
  O a ∧ p.H0 a = none ∧ p.ha ≠ some a ∧ Own K O H a d ∧ ∀ (i : Nat) (d' : PyData), s.G[i]? = some (.m d') → σ[i]? ≠ some (some (.ref a))
def liftF (K : PySem.W.Frag) (t : PTE) : TE := fun σ H QV => ∃ p O s, Rl K p O σ H s ∧ t s fun d s' => ∀ a O' H', Rl K p O' σ H' s' → Kp O H O' H' → Lone K p O' σ H' s' a d → QV (.ref a) H'
structure DF (X : Cx) (e : Expr) (t : PTE) : Prop where
  pe : PE X e (liftF X.K t)
  mono : Mono t

theorem PE.weak {X : Cx} {e : Expr} {t t' : TE} (h : PE X e t) (w : ∀ σ H Q, t' σ H Q → t σ H Q) : PE X e t' := ⟨fun pins s σ H Q I q => h.run pins s σ H Q I (w _ _ _ q)⟩

section
variable {K : PySem.W.Frag} {X : Cx} {p : Pm} {O O' : Ow} {σ : L2.St} {H H' : Hp} {s : PSt} {v : V} {d : PyData} {a : Addr} {e : Expr} {t : PTE}
theorem RvOk.to {r : Rv} (k : Kp O H O' H') (h : RvOk K p O σ H v r) : RvOk K p O' σ H' v r := by
  cases r with
  | c d => exact At.to k h
  | s i => exact h
/-- what an operand reads as, now -/
theorem Rl.read {r : Rv} (R : Rl K p O σ H s) (h : RvOk K p O σ H v r) (e : rd s r = some d) : AtE K O H v d := by
  cases r with
  | c d' =>
    injection e with e
    subst e
    exact .inl h
  | s i =>
    have h : σ[i]? = some (some v) := h
    have e : s.G[i]?.bind Sl.data = some d := e
    cases q : s.G[i]? with
    | none => rw [q] at e; cases e
    | some S =>
      rw [q] at e
      have z := R.sl i S q
      rw [h] at z
      cases S with
      | no => cases e
      | v d' =>
        injection (show some d' = some d from e) with e; subst e
        obtain ⟨y, e1, e2⟩ := z
        cases e1
        exact .inl e2
      | m d' =>
        injection (show some d' = some d from e) with e; subst e
        obtain ⟨y, e1, _, _, _, e2⟩ := z
        cases e1
        exact .inr ⟨y, rfl, e2.r⟩
      | b d' =>
        injection (show some d' = some d from e) with e; subst e
        obtain ⟨y, e1, _, _, e2⟩ := z
        cases e1
        exact .inr ⟨y, rfl, e2⟩
      | h => cases e

/-- shared data as an operand -/
@[simp] def tOf (t : PTE) : PTL := fun s Q => t s fun d s' => Q (.c d) s'
theorem DE.dl (h : DE X e t) : DL X e (tOf t) :=
  ⟨PE.weak h.pe fun σ H Q ⟨p, O, s, r, q⟩ => ⟨p, O, s, r, h.mono _ _ _ (fun d s' k v O' H' r' kp a => k v O' H' r' kp a) q⟩,
    fun s Q Q' w q => h.mono _ _ _ (fun d s' => w (.c d) s') q⟩
/-- an owned one given up -/
def Ow.less (O : Ow) (a : Addr) : Ow := fun b => O b ∧ b ≠ a
theorem Rl.less (R : Rl K p O σ H s) (h0 : p.H0 a = none) (hh : p.ha ≠ some a) (hm : ∀ (i : Nat) (d' : PyData), s.G[i]? = some (.m d') → σ[i]? ≠ some (some (.ref a))) : Rl K p (O.less a) σ H s := by
  have k : Kp O H (O.less a) H := Kp.less fun _ z => z.1
  refine ⟨R.len, fun i S e => ?_, R.inj, fun b e => ?_, R.frm, fun b z => R.dom b z.1, fun b z => ⟨R.o0 b z, fun e => R.od b z (by rw [e]; exact h0)⟩, R.od, fun b z n => R.ob b z.1 n⟩
  · have q := R.sl i S e
    cases S with
    | no => trivial
    | v d => obtain ⟨y, e1, e2⟩ := q; exact ⟨y, e1, e2.to k⟩
    | m d =>
      obtain ⟨b, e1, e2, e3, e4, e5⟩ := q
      refine ⟨b, e1, ⟨e2, fun z => hm i d e (by rw [e1, z])⟩, e3, e4, e5.to k rfl⟩
    | b d => obtain ⟨b, e1, e2, e3, e4⟩ := q; exact ⟨b, e1, e2, e3, e4.to k rfl⟩
    | h => exact q
  · obtain ⟨e1, xs, e2, e3⟩ := R.hand b e
    exact ⟨⟨e1, fun z => hh (by rw [← z]; exact e)⟩, xs, e2, e3.to k⟩
theorem DF.de (h : DF X e t) : DE X e t :=
  ⟨PE.weak h.pe fun σ H Q ⟨p, O, s, r, q⟩ => ⟨p, O, s, r, h.mono _ _ _ (fun d s' k a O' H' r' kp ⟨l1, l2, l3, l4, l5⟩ =>
      k (.ref a) (O'.less a) H' (r'.less l2 l3 l5) (kp.trans (Kp.less fun _ z => z.1)) (l4.free (fun z => z.2 rfl) fun _ z => z.1)) q⟩, h.mono⟩
end
end PD
end
section
set_option Elab.async false
set_option linter.all false
set_option maxRecDepth 100000
set_option maxHeartbeats 4000000
/-! PD3: constants, names, operators, comparisons over data. -/
namespace PD
open PySem PySem.Spec PyProof.Rows L2

section
variable {K : PySem.W.Frag} {X : Cx} {p : Pm} {O O' : Ow} {σ : L2.St} {H H' : Hp} {s : PSt} {v : V} {d : PyData} {a : Addr}
theorem AtE.int {i : Int} (h : AtE K O H v (.int i)) : v = .int i := by
  rcases h with h | ⟨a, _, h⟩ <;> cases h
  rfl
theorem AtE.str {i : Str} (h : AtE K O H v (.str i)) : v = .str i := by
  rcases h with h | ⟨a, _, h⟩ <;> cases h
  rfl
theorem AtE.bl {i : Bool} (h : AtE K O H v (.bool i)) : v = .bl i := by
  rcases h with h | ⟨a, _, h⟩ <;> cases h
  rfl
theorem AtE.non (h : AtE K O H v .none) : v = .non := by
  rcases h with h | ⟨a, _, h⟩ <;> cases h
  rfl
theorem AtE.tup {ds : List PyData} (h : AtE K O H v (.tuple ds)) : ∃ a xs, v = .ref a ∧ SqTo O H a xs ∧ AtL K O H xs ds := by
  rcases h with h | ⟨a, _, h⟩ <;> cases h
  rename_i a xs h1 h2
  exact ⟨a, xs, rfl, h1, h2⟩
theorem AtE.lst {ds : List PyData} (h : AtE K O H v (.list ds)) : ∃ a xs, v = .ref a ∧ H a = some (.lst xs) ∧ AtL K O H xs ds := by
  rcases h with h | ⟨a, rfl, h⟩
  · cases h with
    | lst h1 h2 => exact ⟨_, _, rfl, h1.2, h2⟩
  · cases h with
    | lst h1 h2 => exact ⟨_, _, rfl, h1, h2⟩
theorem At.tupI {K : PySem.W.Frag} {xs : List V} {ds : List PyData} {a : Addr} (h1 : SqTo O H a xs) (h2 : AtL K O H xs ds) : At K O H (.ref a) (.tuple ds) := .tup h1 h2
/-- what is free is not owned -/
theorem Rl.nown {q : Addr} (R : Rl K p O σ H s) (hq : H q = none) : ¬ O q := fun z => (R.dom q z).ne hq
theorem Rl.fresh {q : Addr} (R : Rl K p O σ H s) (hq : H q = none) : p.H0 q = none ∧ p.ha ≠ some q ∧ ∀ (i : Nat) (d' : PyData), s.G[i]? = some (.m d') → σ[i]? ≠ some (some (.ref q)) := by
  have hh : p.ha ≠ some q := fun e => by
    obtain ⟨_, xs, e2, _⟩ := R.hand q e
    rw [hq] at e2; cases e2
  refine ⟨?_, hh, fun i d' e z => ?_⟩
  · cases e : p.H0 q with
    | none => rfl
    | some u => have := R.frm q u e hh; rw [hq] at this; cases this
  · obtain ⟨b, e1, e2, _⟩ := R.sl i _ e
    rw [z] at e1; cases e1
    exact (R.dom _ e2).ne hq
/-- a new list, tuple, as shared data -/
theorem fin_tup {q : Addr} {xs : List V} {ds : List PyData} (R : Rl K p O σ H s) (hq : H q = none) (l : AtL K O H xs ds) :
    Rl K p O σ (upd H q (.tup xs)) s ∧ Kp O H O (upd H q (.tup xs)) ∧ At K O (upd H q (.tup xs)) (.ref q) (.tuple ds) :=
  ⟨R.new hq, Kp.new hq, .tup ⟨R.nown hq, upd_same⟩ (l.to (Kp.new hq))⟩
theorem fin_lst {q : Addr} {xs : List V} {ds : List PyData} (R : Rl K p O σ H s) (hq : H q = none) (l : AtL K O H xs ds) :
    Rl K p O σ (upd H q (.lst xs)) s ∧ Kp O H O (upd H q (.lst xs)) ∧ At K O (upd H q (.lst xs)) (.ref q) (.list ds) :=
  ⟨R.new hq, Kp.new hq, .lst ⟨R.nown hq, upd_same⟩ (l.to (Kp.new hq))⟩
theorem fin_lone {q : Addr} {xs : List V} {ds : List PyData} (R : Rl K p O σ H s) (hq : H q = none) (l : AtL K O H xs ds) :
    Rl K p (O.with q) σ (upd H q (.lst xs)) s ∧ Kp O H (O.with q) (upd H q (.lst xs)) ∧ Lone K p (O.with q) σ (upd H q (.lst xs)) s q (.list ds) :=
  ⟨R.newOwn hq, Kp.newOwn hq, .inr rfl, (R.fresh hq).1, (R.fresh hq).2.1, .lst upd_same (l.to (Kp.newOwn hq)), (R.fresh hq).2.2⟩

/-! ### constants, names -/
variable {e a b c : Expr} {pos : Pos}
@[simp] def tK (d : PyData) : PTE := fun s Q => Q d s
theorem mono_K : Mono (tK d) := fun s Q Q' w q => w _ _ q
theorem de_const {v : V} (h : PE X e (tC v)) (w : ∀ O H, At X.K O H v d) : DE X e (tK d) :=
  ⟨PE.weak h fun σ H Q ⟨p, O, s, r, q⟩ => q v O H r .refl (w O H), mono_K⟩
theorem de_int {i : Int} {j} : DE X (.Constant (.int i) j pos) (tK (.int i)) := de_const pe_int fun _ _ => .int i
theorem de_str {i : Str} {j} : DE X (.Constant (.str i) j pos) (tK (.str i)) := de_const pe_str fun _ _ => .str i
theorem de_bl {i : Bool} {j} : DE X (.Constant (.bool i) j pos) (tK (.bool i)) := de_const pe_bl fun _ _ => .bl i
theorem de_non {j} : DE X (.Constant .none j pos) (tK .none) := de_const pe_non fun _ _ => .non
theorem de_gint {x : Str} {i : Int} (hg : Gl X x) {t : Tok} (hm : X.mg x = some (.int i t)) (hd : (x == ("__debug__" : Str)) = false := by decide) : DE X (.Name x pos) (tK (.int i)) := de_const (pe_glob hg hm (v := .int i) ⟨_, rfl⟩ hd) fun _ _ => .int i
theorem de_gstr {x : Str} {i : Str} (hg : Gl X x) {t : Tok} (hm : X.mg x = some (.str i t)) (hd : (x == ("__debug__" : Str)) = false := by decide) : DE X (.Name x pos) (tK (.str i)) := de_const (pe_glob hg hm (v := .str i) ⟨_, rfl⟩ hd) fun _ _ => .str i
/-- a slot, as an operand -/
@[simp] def tSl (i : Nat) : PTL := fun s Q => (∃ d, rd s (.s i) = some d) ∧ Q (.s i) s
theorem Rl.val {i : Nat} (R : Rl K p O σ H s) (h : ∃ d, rd s (.s i) = some d) : ∃ v, σ[i]? = some (some v) := by
  obtain ⟨d, e⟩ := h
  have e : s.G[i]?.bind Sl.data = some d := e
  cases q : s.G[i]? with
  | none => rw [q] at e; cases e
  | some S =>
    have z := R.sl i S q
    rw [q] at e
    cases S with
    | no => cases e
    | v d' => obtain ⟨y, e1, _⟩ := z; exact ⟨_, e1⟩
    | m d' => obtain ⟨y, e1, _⟩ := z; exact ⟨_, e1⟩
    | b d' => obtain ⟨y, e1, _⟩ := z; exact ⟨_, e1⟩
    | h => cases e
theorem dl_pe {i : Nat} (h : PE X e (tVar i)) : DL X e (tSl i) :=
  ⟨PE.weak h fun σ H Q ⟨p, O, s, r, q, k⟩ => by
    obtain ⟨v, e⟩ := r.val q
    exact ⟨v, e, k v O H r .refl e⟩, fun s Q Q' w q => ⟨q.1, w _ _ q.2⟩⟩
theorem dl_var (i : Nat) {x : Str} (hN : X.N[i]? = some x := by rfl) (hv : Vis X.env.scope x := by first | exact Or.inl rfl | exact Or.inr (Or.inl rfl) | exact Or.inr (Or.inr rfl)) (hd : (x == ("__debug__" : Str)) = false := by decide)
    (hcd : (x == ("__classdict__" : Str)) = false := by decide) : DL X (.Name x pos) (tSl i) := dl_pe (pv i hN hv hd hcd)
/-- a slot, as shared data: what the name alone held is held by it alone no more -/
@[simp] def tVr (i : Nat) : PTE := fun s Q => match s.G[i]? with
  | some (.v d) => Q d s
  | some (.m d) => Q d { s with G := s.G.set i (.v d) }
  | _ => False
theorem Rl.freeze {i : Nat} {a : Addr} (R : Rl K p O σ H s) (e : s.G[i]? = some (.m d)) (ea : σ[i]? = some (some (.ref a))) : Rl K p (O.less a) σ H { s with G := s.G.set i (.v d) } ∧ At K (O.less a) H (.ref a) d := by
  have k : Kp O H (O.less a) H := Kp.less fun _ z => z.1
  obtain ⟨a', e1, e2, e3, e4, e5⟩ := R.sl i _ e
  rw [ea] at e1; cases e1
  have ha : At K (O.less a) H (.ref a) d := e5.free (fun z => z.2 rfl) fun _ z => z.1
  have hi : i < s.G.length := (List.getElem?_eq_some_iff.mp e).1
  have other : ∀ (j : Nat) (d' : PyData), (s.G.set i (.v d))[j]? = some (.m d') → j ≠ i ∧ s.G[j]? = some (.m d') := fun j d' q => by
    by_cases hj : i = j
    · subst hj; rw [List.getElem?_set_self hi] at q; cases q
    · rw [List.getElem?_set_ne hj] at q; exact ⟨fun z => hj z.symm, q⟩
  refine ⟨⟨by rw [List.length_set]; exact R.len, fun j S q => ?_, fun j l d' d'' c q1 q2 => R.inj j l d' d'' c (other j d' q1).2 (other l d'' q2).2, fun c e => ?_, R.frm, fun c z => R.dom c z.1, fun c z => ⟨R.o0 c z, fun e => R.od c z (by rw [e]; exact e3)⟩, R.od, fun c z n => R.ob c z.1 n⟩, ha⟩
  · by_cases hj : i = j
    · subst hj
      have q : (s.G.set i (.v d))[i]? = some S := q
      rw [List.getElem?_set_self hi] at q; cases q
      exact ⟨_, ea, ha⟩
    · have q : (s.G.set i (.v d))[j]? = some S := q
      rw [List.getElem?_set_ne hj] at q
      have z := R.sl j S q
      cases S with
      | no => trivial
      | v d => obtain ⟨y, e1, e2⟩ := z; exact ⟨y, e1, e2.to k⟩
      | m d' =>
        obtain ⟨c, q1, q2, q3, q4, q5⟩ := z
        exact ⟨c, q1, ⟨q2, fun z => hj (R.inj i j d d' a e q ea (by rw [q1, z]))⟩, q3, q4, q5.to k rfl⟩
      | b d' => obtain ⟨c, q1, q2, q3, q4⟩ := z; exact ⟨c, q1, q2, q3, q4.to k rfl⟩
      | h => exact z
  · obtain ⟨q1, xs, q2, q3⟩ := R.hand c e
    exact ⟨⟨q1, fun z => e4 (by rw [← z]; exact e)⟩, xs, q2, q3.to k⟩
theorem de_pe {i : Nat} (h : PE X e (tVar i)) : DE X e (tVr i) := by
  refine ⟨PE.weak h fun σ H Q ⟨p, O, s, r, q⟩ => ?_, fun s Q Q' w q => ?_⟩
  · unfold tVr at q
    split at q
    · rename_i d e
      obtain ⟨y, e1, e2⟩ := r.sl i _ e
      exact ⟨y, e1, q y O H r .refl e2⟩
    · rename_i d e
      obtain ⟨a, e1, _⟩ := r.sl i _ e
      obtain ⟨r', ha⟩ := r.freeze e e1
      exact ⟨_, e1, q _ _ H r' (Kp.less fun _ z => z.1) ha⟩
    · exact q.elim
  · unfold tVr at q ⊢
    split at q
    · exact w _ _ q
    · exact w _ _ q
    · exact q.elim
theorem de_var (i : Nat) {x : Str} (hN : X.N[i]? = some x := by rfl) (hv : Vis X.env.scope x := by first | exact Or.inl rfl | exact Or.inr (Or.inl rfl) | exact Or.inr (Or.inr rfl)) (hd : (x == ("__debug__" : Str)) = false := by decide)
    (hcd : (x == ("__classdict__" : Str)) = false := by decide) : DE X (.Name x pos) (tVr i) := de_pe (pv i hN hv hd hcd)

/-! ### operators -/
def OpD (X : Cx) (g : Value → Value → Sem Value) (f : PyData → PyData → Option PyData) : Prop :=
  ∀ (p : Pm) (pins : List (Addr × Obj)) (sh : Shared) (σ : L2.St) (H : Hp) (O : Ow) (s : PSt) (x y : V) (v u : Value) (dx dy z : PyData) (QV : VK), Inv X pins σ H sh → Rl X.K p O σ H s → RelV x v → RelV y u →
    AtE X.K O H x dx → AtE X.K O H y dy → f dx dy = some z → (∀ w H', Rl X.K p O σ H' s → Kp O H O H' → At X.K O H' w z → QV w H') → wpAny (model X.prog X.w) X.A (g v u) (EP X pins σ QV) X.xe sh
/-- the reading of two operands -/
@[simp] def tBin (f : PyData → PyData → Option PyData) (ta tb : PTL) : PTE := fun s Q => ta s fun x s1 => tb s1 fun y s2 => ∃ dx dy z, rd s2 x = some dx ∧ rd s2 y = some dy ∧ f dx dy = some z ∧ Q z s2
theorem mono_bin {f : PyData → PyData → Option PyData} {ta tb : PTL} (ha : MonoL ta) (hb : MonoL tb) : Mono (tBin f ta tb) := fun s Q Q' w q =>
  ha _ _ _ (fun x s1 q1 => hb _ _ _ (fun y s2 ⟨dx, dy, z, e1, e2, e3, q2⟩ => ⟨dx, dy, z, e1, e2, e3, w _ _ q2⟩) q1) q
/-- two operands, then anything -/
theorem two {ta tb : PTL} {s : PSt} {T : V → V → Hp → Prop} {U : Rv → Rv → PSt → Prop} (ha : DL X a ta) (hb : DL X b tb) (R : Rl X.K p O σ H s) (q : ta s fun x s1 => tb s1 fun y s2 => U x y s2)
    (k : ∀ x y vx vy O' H' s', Rl X.K p O' σ H' s' → Kp O H O' H' → RvOk X.K p O' σ H' vx x → RvOk X.K p O' σ H' vy y → U x y s' → T vx vy H') :
    liftL X.K ta σ H fun x H1 => liftL X.K tb σ H1 fun y H2 => T x y H2 :=
  ⟨p, O, s, R, ha.mono _ _ _ (fun x s1 q1 vx O1 H1 R1 k1 a1 => ⟨p, O1, s1, R1, hb.mono _ _ _ (fun y s2 q2 vy O2 H2 R2 k2 a2 => k x y vx vy O2 H2 s2 R2 (k1.trans k2) (a1.to k2) a2 q2) q1⟩) q⟩
theorem de_op {op : Operator} {f : PyData → PyData → Option PyData} {ta tb : PTL} (ho : OpD X (binaryOp op) f) (ha : DL X a ta) (hb : DL X b tb) : DE X (.BinOp a op b pos) (tBin f ta tb) := by
  refine ⟨⟨fun pins sh σ H Q I h => ?_⟩, mono_bin ha.mono hb.mono⟩
  obtain ⟨p, O, s, R, q⟩ := h
  refine wpAny_BinOp (binT ha.pe hb.pe I (two (T := fun x y H2 => ∃ O' s' dx dy z, Rl X.K p O' σ H2 s' ∧ AtE X.K O' H2 x dx ∧ AtE X.K O' H2 y dy ∧ f dx dy = some z ∧ ∀ w H3, Rl X.K p O' σ H3 s' → Kp O' H2 O' H3 → At X.K O' H3 w z → Q w H3) ha hb R q ?_) fun v u s2 x y H2 I2 rx ry q2 => ?_)
  · rintro x y vx vy O' H' s' R' k' a1 a2 ⟨dx, dy, z, e1, e2, e3, q3⟩
    exact ⟨O', s', dx, dy, z, R', R'.read a1 e1, R'.read a2 e2, e3, fun w H3 R3 k3 a3 => q3 w O' H3 R3 (k'.trans k3) a3⟩
  · obtain ⟨O', s', dx, dy, z, R', a1, a2, e3, q3⟩ := q2
    exact ho p pins s2 σ H2 O' s' x y v u dx dy z Q I2 R' rx ry a1 a2 e3 q3

def addD : PyData → PyData → Option PyData
  | .int i, .int j => some (.int (i + j))
  | .str x, .str y => if x.length + y.length ≤ sizeLine then some (.str (x ++ y)) else none
  | .tuple xs, .tuple ys => if xs.length + ys.length ≤ sizeLine then some (.tuple (xs ++ ys)) else none
  | .list xs, .list ys => if xs.length + ys.length ≤ sizeLine then some (.list (xs ++ ys)) else none
  | _, _ => none
theorem op_addD : OpD X (binaryOp .Add) addD := by
  intro p pins sh σ H O s x y v u dx dy z Q I R rx ry ax ay e k
  unfold addD at e
  split at e
  · cases e
    cases ax.int; cases ay.int
    exact op_add pins sh σ H _ _ v u Q I rx ry ⟨_, _, rfl, rfl, k _ H R .refl (.int _)⟩
  · split at e
    · rename_i hz
      cases e
      cases ax.str; cases ay.str
      exact op_add_str pins sh σ H _ _ v u Q I rx ry ⟨_, _, rfl, rfl, hz, k _ H R .refl (.str _)⟩
    · cases e
  · split at e
    · rename_i xs ys hz
      cases e
      obtain ⟨a, vs, rfl, h1, h2⟩ := ax.tup
      obtain ⟨b, ws, rfl, h3, h4⟩ := ay.tup
      refine op_catA pins sh σ H _ _ v u Q I rx ry ⟨_, _, vs, ws, rfl, rfl, h1.sq, h3.sq, by rw [h2.len, h4.len]; exact hz, fun z => ?_, fun _ z => ?_, fun _ _ q hq => ?_⟩
      · subst z; cases h2; exact k _ H R .refl (.tup h3 h4)
      · subst z; cases h4; rw [List.append_nil] at k; exact k _ H R .refl (.tup h1 h2)
      · obtain ⟨f1, f2, f3⟩ := fin_tup R hq (h2.append h4)
        exact k _ _ f1 f2 f3
    · cases e
  · split at e
    · rename_i xs ys hz
      cases e
      obtain ⟨a, vs, rfl, h1, h2⟩ := ax.lst
      obtain ⟨b, ws, rfl, h3, h4⟩ := ay.lst
      refine op_cat pins sh σ H _ _ v u Q I rx ry ⟨_, _, vs, ws, rfl, rfl, h1, h3, by rw [h2.len, h4.len]; exact hz, fun q hq => ?_⟩
      obtain ⟨f1, f2, f3⟩ := fin_lst R hq (h2.append h4)
      exact k _ _ f1 f2 f3
    · cases e
  · cases e
def subD : PyData → PyData → Option PyData
  | .int i, .int j => some (.int (i - j))
  | _, _ => none
theorem op_subD : OpD X (binaryOp .Sub) subD := by
  intro p pins sh σ H O s x y v u dx dy z Q I R rx ry ax ay e k
  unfold subD at e
  split at e
  · cases e
    cases ax.int; cases ay.int
    exact op_sub pins sh σ H _ _ v u Q I rx ry ⟨_, _, rfl, rfl, k _ H R .refl (.int _)⟩
  · cases e
/-- the i-th power of a row -/
def repD (n : Int) (ds : List PyData) : List PyData := (List.replicate n.toNat ds).flatten
theorem AtL.rep {xs : List V} {ds : List PyData} (h : AtL K O H xs ds) : ∀ n : Nat, AtL K O H (List.replicate n xs).flatten (List.replicate n ds).flatten
  | 0 => .nil
  | n + 1 => by
    rw [List.replicate_succ, List.replicate_succ, List.flatten_cons, List.flatten_cons]
    exact h.append (AtL.rep h n)
instance CMul.dec (i j : Int) : Decidable (CMul i j) := by unfold CMul; exact inferInstance
def mulD : PyData → PyData → Option PyData
  | .int i, .int j => if CMul i j then some (.int (i * j)) else none
  | .list xs, .int n => if -(2 ^ 63) ≤ n ∧ n < 2 ^ 63 ∧ xs.length * n.toNat ≤ sizeLine then some (.list (repD n xs)) else none
  | .tuple xs, .int n => if xs ≠ [] ∧ 2 ≤ n ∧ n ≤ 1000 ∧ xs.length ≤ 1000 then some (.tuple (repD n xs)) else none
  | _, _ => none
theorem op_mulD : OpD X (binaryOp .Mult) mulD := by
  intro p pins sh σ H O s x y v u dx dy z Q I R rx ry ax ay e k
  unfold mulD at e
  split at e
  · split at e
    · rename_i hc
      cases e
      cases ax.int; cases ay.int
      exact op_mul pins sh σ H _ _ v u Q I rx ry ⟨_, _, rfl, rfl, hc, k _ H R .refl (.int _)⟩
    · cases e
  · split at e
    · rename_i hz
      cases e
      obtain ⟨a, vs, rfl, h1, h2⟩ := ax.lst
      cases ay.int
      refine op_rep pins sh σ H _ _ v u Q I rx ry ⟨_, _, vs, rfl, rfl, h1, hz.1, hz.2.1, by rw [h2.len]; exact hz.2.2, fun q hq => ?_⟩
      obtain ⟨f1, f2, f3⟩ := fin_lst R hq (h2.rep _)
      exact k _ _ f1 f2 f3
    · cases e
  · split at e
    · rename_i hz
      cases e
      obtain ⟨a, vs, rfl, h1, h2⟩ := ax.tup
      cases ay.int
      refine op_repT pins sh σ H _ _ v u Q I rx ry ⟨_, _, vs, rfl, rfl, h1.sq, fun z => ?_, hz.2.1, hz.2.2.1, by rw [h2.len]; exact hz.2.2.2, fun q hq => ?_⟩
      · subst z; cases h2; exact hz.1 rfl
      · obtain ⟨f1, f2, f3⟩ := fin_tup R hq (h2.rep _)
        exact k _ _ f1 f2 f3
    · cases e
  · cases e
def divD : PyData → PyData → Option PyData
  | .int i, .int j => if 0 < j ∧ j < 1073741824 then some (.int (i / j)) else none
  | _, _ => none
theorem op_divD : OpD X (binaryOp .FloorDiv) divD := by
  intro p pins sh σ H O s x y v u dx dy z Q I R rx ry ax ay e k
  unfold divD at e
  split at e
  · split at e
    · rename_i hc
      cases e
      cases ax.int; cases ay.int
      exact op_fdiv pins sh σ H _ _ v u Q I rx ry ⟨_, _, rfl, rfl, hc, k _ H R .refl (.int _)⟩
    · cases e
  · cases e
def modD : PyData → PyData → Option PyData
  | .int i, .int j => if 0 < j then some (.int (i % j)) else none
  | _, _ => none
theorem op_modD : OpD X (binaryOp .Mod) modD := by
  intro p pins sh σ H O s x y v u dx dy z Q I R rx ry ax ay e k
  unfold modD at e
  split at e
  · split at e
    · rename_i hc
      cases e
      cases ax.int; cases ay.int
      exact op_mod pins sh σ H _ _ v u Q I rx ry ⟨_, _, rfl, rfl, hc, k _ H R .refl (.int _)⟩
    · cases e
  · cases e
def powD : PyData → PyData → Option PyData
  | .int i, .int j => if 0 ≤ j ∧ j ≤ 1000000 ∧ i.natAbs < 2 ^ 64 then some (.int (i ^ j.toNat)) else none
  | _, _ => none
theorem op_powD : OpD X (binaryOp .Pow) powD := by
  intro p pins sh σ H O s x y v u dx dy z Q I R rx ry ax ay e k
  unfold powD at e
  split at e
  · split at e
    · rename_i hc
      cases e
      cases ax.int; cases ay.int
      exact op_pow pins sh σ H _ _ v u Q I rx ry ⟨_, _, rfl, rfl, hc, k _ H R .refl (.int _)⟩
    · cases e
  · cases e
end
end PD
end
section
set_option Elab.async false
set_option linter.all false
set_option maxRecDepth 100000
set_option maxHeartbeats 4000000
/-! PD4: comparisons, tests, displays, subscripts over data. -/
namespace PD
open PySem PySem.Spec PyProof.Rows L2

/-- the key that data is -/
def keyOf : PyData → Option Key
  | .int i => some (.inl i)
  | .str x => some (.inr x)
  | _ => none
def keysAll : List PyData → Option (List Key)
  | [] => some []
  | d :: ds => (keyOf d).bind fun k => (keysAll ds).map (k :: ·)
def keysOf : PyData → Option (List Key)
  | .tuple ds => keysAll ds
  | _ => none
theorem keyOf_D {d : PyData} {k : Key} (h : keyOf d = some k) : d = keyD k := by
  unfold keyOf at h
  split at h <;> cases h <;> rfl
theorem keysAll_D : ∀ {ds : List PyData} {k : List Key}, keysAll ds = some k → ds = k.map keyD
  | [], _, h => by cases h; rfl
  | d :: ds, k, h => by
    unfold keysAll at h
    cases e : keyOf d with
    | none => rw [e] at h; cases h
    | some k0 =>
      cases e2 : keysAll ds with
      | none => rw [e, e2] at h; cases h
      | some ks =>
        rw [e, e2] at h
        cases h
        rw [List.map_cons, ← keyOf_D e, ← keysAll_D e2]
theorem keysOf_D {d : PyData} {k : List Key} (h : keysOf d = some k) : d = keysD k := by
  unfold keysOf at h
  split at h
  · rw [keysAll_D h]; rfl
  · cases h
theorem keyD_inj {k k' : Key} (h : keyD k = keyD k') : k = k' := by
  cases k <;> cases k' <;> cases h <;> rfl
theorem keyOf_keyD (k : Key) : keyOf (keyD k) = some k := by cases k <;> rfl
theorem keysAll_map : ∀ k : List Key, keysAll (k.map keyD) = some k
  | [] => rfl
  | k :: ks => by
    rw [List.map_cons]
    unfold keysAll
    rw [keyOf_keyD, keysAll_map ks]
    rfl
/-- what a dict of data has at a key -/
def lookD (k : PyData) : List (PyData × PyData) → Option PyData
  | [] => none
  | (k', d) :: r => if (keyOf k' = keyOf k ∧ keysOf k' = keysOf k) then some d else lookD k r
def putD (k d : PyData) : List (PyData × PyData) → List (PyData × PyData)
  | [] => [(k, d)]
  | (k', d') :: r => if (keyOf k' = keyOf k ∧ keysOf k' = keysOf k) then (k', d) :: r else (k', d') :: putD k d r

section
variable {K : PySem.W.Frag} {X : Cx} {p : Pm} {O O' : Ow} {σ : L2.St} {H H' : Hp} {s : PSt} {v : V} {d : PyData} {a : Addr}
theorem At.key {k : Key} (h : At K O H v (keyD k)) : v = kV k := by
  cases k <;> cases h <;> rfl
theorem AtL.keys : ∀ {k : List Key} {vs : List V}, AtL K O H vs (k.map keyD) → vs = k.map kV
  | [], _, h => by cases h; rfl
  | k :: ks, _, h => by
    rw [List.map_cons] at h
    cases h with
    | cons h1 h2 => rw [List.map_cons, h1.key, AtL.keys h2]
theorem AtK.look : ∀ {kvs : List (Key × V)} {ds : List (PyData × PyData)} {k : Key}, AtK K O H kvs ds → (∀ d, lookD (keyD k) ds = some d → ∃ v, valV kvs k = some v ∧ At K O H v d) ∧ (lookD (keyD k) ds = none → valV kvs k = none)
  | _, _, _, .nil => ⟨fun _ h => (by cases h), fun _ => rfl⟩
  | _, _, k, .cons (k := k') (v := v) (vs := vs) (d := d) (ds := ds) h1 h2 => by
    have ih := AtK.look (k := k) h2
    have e : (keyOf (keyD k') = keyOf (keyD k) ∧ keysOf (keyD k') = keysOf (keyD k)) ↔ k' = k := by
      rw [keyOf_keyD, keyOf_keyD]
      refine ⟨fun h => Option.some.inj h.1, fun h => by rw [h]; exact ⟨rfl, rfl⟩⟩
    unfold lookD valV
    by_cases hk : k' = k
    · rw [if_pos (e.mpr hk), List.find?_cons_of_pos (by simpa using hk)]
      exact ⟨fun d' z => by cases z; exact ⟨v, rfl, h1⟩, fun z => by cases z⟩
    · rw [if_neg (fun z => hk (e.mp z)), List.find?_cons_of_neg (by simpa using hk)]
      exact ih
theorem AtT.look : ∀ {kvs : List (List Key × V)} {ds : List (PyData × PyData)} {k : List Key}, AtT K O H kvs ds → (∀ d, lookD (keysD k) ds = some d → ∃ v, valV kvs k = some v ∧ At K O H v d) ∧ (lookD (keysD k) ds = none → valV kvs k = none)
  | _, _, _, .nil => ⟨fun _ h => (by cases h), fun _ => rfl⟩
  | _, _, k, .cons (k := k') (v := v) (vs := vs) (d := d) (ds := ds) h1 h2 => by
    have ih := AtT.look (k := k) h2
    have e : (keyOf (keysD k') = keyOf (keysD k) ∧ keysOf (keysD k') = keysOf (keysD k)) ↔ k' = k := by
      have q : ∀ k : List Key, keysOf (keysD k) = some k := fun k => keysAll_map k
      rw [q, q]
      refine ⟨fun h => Option.some.inj h.2, fun h => by rw [h]; exact ⟨rfl, rfl⟩⟩
    unfold lookD valV
    by_cases hk : k' = k
    · rw [if_pos (e.mpr hk), List.find?_cons_of_pos (by simpa using hk)]
      exact ⟨fun d' z => by cases z; exact ⟨v, rfl, h1⟩, fun z => by cases z⟩
    · rw [if_neg (fun z => hk (e.mp z)), List.find?_cons_of_neg (by simpa using hk)]
      exact ih
/-- what stands as a dict -/
theorem AtE.dic {t : Bool} {ds : List (PyData × PyData)} (h : AtE K O H v (dicD t ds)) : ∃ a, v = .ref a ∧ ((t = false ∧ ∃ kvs, Rd H a (.dK kvs) ∧ AtK K O H kvs ds) ∨ (t = true ∧ ∃ kvs, Rd H a (.dT kvs) ∧ AtT K O H kvs ds)) := by
  unfold dicD at h
  rcases h with h | ⟨a, rfl, h⟩
  · cases h with
    | dicK h1 h2 h3 => exact ⟨_, rfl, .inl ⟨rfl, _, h2, h3⟩⟩
    | dicT h1 h2 h3 => exact ⟨_, rfl, .inr ⟨rfl, _, h2, h3⟩⟩
  · cases h with
    | dicK h2 h3 => exact ⟨_, rfl, .inl ⟨rfl, _, h2, h3⟩⟩
    | dicT h2 h3 => exact ⟨_, rfl, .inr ⟨rfl, _, h2, h3⟩⟩
/-- a key that is fit for the dict: ints and texts for the one kind, tuples of these for the other -/
def keyFits (t : Bool) (k : PyData) : Bool := if t then (keysOf k).isSome else (keyOf k).isSome
theorem keyOf_some {d : PyData} (h : (keyOf d).isSome = true) : ∃ k, d = keyD k := by
  cases e : keyOf d with
  | none => rw [e] at h; cases h
  | some k => exact ⟨k, keyOf_D e⟩
theorem keysOf_some {d : PyData} (h : (keysOf d).isSome = true) : ∃ k, d = keysD k := by
  cases e : keysOf d with
  | none => rw [e] at h; cases h
  | some k => exact ⟨k, keysOf_D e⟩
theorem keyD_keys {k : Key} : ¬ (keysOf (keyD k)).isSome = true := by cases k <;> exact fun h => nomatch h
theorem keysD_key {k : List Key} : ¬ (keyOf (keysD k)).isSome = true := fun h => nomatch h
theorem AtE.keyV {k : Key} {y : V} (hk : AtE K O H y (keyD k)) : y = kV k := by
  rcases hk with hk | ⟨b, _, hk⟩
  · exact hk.key
  · cases k <;> cases hk
theorem AtE.keysV {k : List Key} {y : V} (hk : AtE K O H y (keysD k)) : ∃ b, y = .ref b ∧ H b = some (.tup (k.map kV)) := by
  obtain ⟨b, xs, rfl, hb, hl⟩ := hk.tup
  have hx : xs = k.map kV := hl.keys
  subst hx
  exact ⟨b, rfl, hb.2⟩
theorem AtE.dget {t : Bool} {k : PyData} {y : V} {ds : List (PyData × PyData)} (h : AtE K O H v (dicD t ds)) (hk : AtE K O H y k) (f : keyFits t k = true) :
    ∃ a o, v = .ref a ∧ DGet H a y o ∧ (∀ d, lookD k ds = some d → ∃ w, o = some w ∧ At K O H w d) ∧ (lookD k ds = none → o = none) := by
  obtain ⟨a, rfl, hd⟩ := h.dic
  rcases hd with ⟨rfl, kvs, h1, h2⟩ | ⟨rfl, kvs, h1, h2⟩
  · obtain ⟨k', rfl⟩ := keyOf_some (show (keyOf k).isSome = true from f)
    cases hk.keyV
    exact ⟨a, _, rfl, .inl ⟨kvs, _, h1, rfl, rfl⟩, h2.look.1, h2.look.2⟩
  · obtain ⟨k', rfl⟩ := keysOf_some (show (keysOf k).isSome = true from f)
    obtain ⟨b, rfl, hb⟩ := hk.keysV
    exact ⟨a, _, rfl, .inr ⟨kvs, _, _, h1, rfl, hb, rfl⟩, h2.look.1, h2.look.2⟩

/-! ### comparisons -/
variable {e b c : Expr} {pos : Pos}
theorem de_cmp {op : CmpOp} {f : PyData → PyData → Option PyData} {ta tb : PTL} {a : Expr} (ho : OpD X (compareOp op) f) (ha : DL X a ta) (hb : DL X b tb)
    (hm : behindInMarks op b = false := by first | exact nomark _ | rfl) : DE X (.Compare a [op] [b] pos) (tBin f ta tb) := by
  refine ⟨⟨fun pins sh σ H Q I h => ?_⟩, mono_bin ha.mono hb.mono⟩
  obtain ⟨p, O, s, R, q⟩ := h
  refine wpAny_Compare1 (binT ha.pe hb.pe I (two (T := fun x y H2 => ∃ O' s' dx dy z, Rl X.K p O' σ H2 s' ∧ AtE X.K O' H2 x dx ∧ AtE X.K O' H2 y dy ∧ f dx dy = some z ∧ ∀ w H3, Rl X.K p O' σ H3 s' → Kp O' H2 O' H3 → At X.K O' H3 w z → Q w H3) ha hb R q ?_) fun v u s2 x y H2 I2 rx ry q2 => ?_) hm
  · rintro x y vx vy O' H' s' R' k' a1 a2 ⟨dx, dy, z, e1, e2, e3, q3⟩
    exact ⟨O', s', dx, dy, z, R', R'.read a1 e1, R'.read a2 e2, e3, fun w H3 R3 k3 a3 => q3 w O' H3 R3 (k'.trans k3) a3⟩
  · obtain ⟨O', s', dx, dy, z, R', a1, a2, e3, q3⟩ := q2
    exact ho p pins s2 σ H2 O' s' x y v u dx dy z Q I2 R' rx ry a1 a2 e3 q3
end
end PD
end
section
set_option Elab.async false
set_option linter.all false
set_option maxRecDepth 100000
set_option maxHeartbeats 4000000
/-! PD5: comparison operators over data; tests; and, or, not; displays; subscripts. -/
namespace PD
open PySem PySem.Spec PyProof.Rows L2

section
variable {K : PySem.W.Frag} {X : Cx} {p : Pm} {O O' : Ow} {σ : L2.St} {H H' : Hp} {s : PSt} {v : V} {d : PyData} {a : Addr}
theorem AtE.rds {pins : List (Addr × Obj)} {sh : Shared} {u : Value} (I : Inv X pins σ H sh) (h : AtE X.K O H v d) (hp : d.plain = true) (r : RelV v u) : ∃ as, Reads sh.heap u d as := At.reads I d v u hp h.at0 r
theorem At.rds {pins : List (Addr × Obj)} {sh : Shared} {u : Value} (I : Inv X pins σ H sh) (h : At X.K O H v d) (hp : d.plain = true) (r : RelV v u) : ∃ as, Reads sh.heap u d as := At.reads I d v u hp h r

theorem min60 {A : Around} {m : Nat} (hu : A.units + 64 < cLine) (h : m ≤ 60) : A.units + m < cLine := by omega
theorem min61 {A : Around} {m : Nat} (hu : A.units + 64 < cLine) (h : m ≤ 60) : A.units + 1 + m < cLine := by omega
def okEq (dx dy : PyData) : Bool := dx.plain && dy.plain && decide (min dx.depth dy.depth ≤ 60)
def eqD (dx dy : PyData) : Option PyData := if okEq dx dy then some (.bool (PyData.eqv dx dy)) else none
def neD (dx dy : PyData) : Option PyData := if okEq dx dy then some (.bool (!PyData.eqv dx dy)) else none
theorem okEq_of {dx dy : PyData} (h : okEq dx dy = true) : dx.plain = true ∧ dy.plain = true ∧ min dx.depth dy.depth ≤ 60 := by
  unfold okEq at h
  simp only [Bool.and_eq_true, decide_eq_true_eq] at h
  exact ⟨h.1.1, h.1.2, h.2⟩
theorem op_eqP (hu : X.A.units + 64 < cLine) : OpD X (compareOp .Eq) eqD := by
  intro p pins sh σ H O s x y v u dx dy z Q I R rx ry ax ay e k
  unfold eqD at e
  split at e
  · rename_i ok
    cases e
    obtain ⟨p1, p2, p3⟩ := okEq_of ok
    obtain ⟨as, r1⟩ := ax.rds I p1 rx
    obtain ⟨bs, r2⟩ := ay.rds I p2 ry
    exact SeqAt.eq_plain r1 r2 p1 p2 (min60 hu p3) ⟨.bl _, H, I, rfl, k _ H R .refl (.bl _)⟩
  · cases e
theorem op_neP (hu : X.A.units + 64 < cLine) : OpD X (compareOp .NotEq) neD := by
  intro p pins sh σ H O s x y v u dx dy z Q I R rx ry ax ay e k
  unfold neD at e
  split at e
  · rename_i ok
    cases e
    obtain ⟨p1, p2, p3⟩ := okEq_of ok
    obtain ⟨as, r1⟩ := ax.rds I p1 rx
    obtain ⟨bs, r2⟩ := ay.rds I p2 ry
    exact SeqAt.ne_plain r1 r2 p1 p2 (min60 hu p3) ⟨.bl _, H, I, rfl, k _ H R .refl (.bl _)⟩
  · cases e
def okLt (dx dy : PyData) : Bool := dx.plain && dy.plain && PySem.W.alike dx dy && (match dx with | .none => false | _ => true) && decide (min dx.depth dy.depth ≤ 60)
theorem okLt_of {dx dy : PyData} (h : okLt dx dy = true) : dx.plain = true ∧ dy.plain = true ∧ PySem.W.alike dx dy = true ∧ dx ≠ .none ∧ min dx.depth dy.depth ≤ 60 := by
  unfold okLt at h
  simp only [Bool.and_eq_true, decide_eq_true_eq] at h
  refine ⟨h.1.1.1.1, h.1.1.1.2, h.1.1.2, ?_, h.2⟩
  intro e
  rw [e] at h
  exact Bool.false_ne_true h.1.2
def ltD (dx dy : PyData) : Option PyData := if okLt dx dy then some (.bool (PySem.W.dataLt dx dy)) else none
def gtD (dx dy : PyData) : Option PyData := if okLt dx dy then some (.bool (PySem.W.dataLt dy dx)) else none
def leD (dx dy : PyData) : Option PyData := if okLt dx dy then some (.bool (!PySem.W.dataLt dy dx)) else none
def geD (dx dy : PyData) : Option PyData := if okLt dx dy then some (.bool (!PySem.W.dataLt dx dy)) else none
theorem op_ltP (hu : X.A.units + 64 < cLine) : OpD X (compareOp .Lt) ltD := by
  intro p pins sh σ H O s x y v u dx dy z Q I R rx ry ax ay e k
  unfold ltD at e
  split at e
  · rename_i ok
    cases e
    obtain ⟨p1, p2, p3, p4, p5⟩ := okLt_of ok
    obtain ⟨as, r1⟩ := ax.rds I p1 rx
    obtain ⟨bs, r2⟩ := ay.rds I p2 ry
    exact PySem.W.lt_data r1 r2 p3 p4 (min60 hu p5) ⟨.bl _, H, I, rfl, k _ H R .refl (.bl _)⟩
  · cases e
theorem op_gtP (hu : X.A.units + 64 < cLine) : OpD X (compareOp .Gt) gtD := by
  intro p pins sh σ H O s x y v u dx dy z Q I R rx ry ax ay e k
  unfold gtD at e
  split at e
  · rename_i ok
    cases e
    obtain ⟨p1, p2, p3, p4, p5⟩ := okLt_of ok
    obtain ⟨as, r1⟩ := ax.rds I p1 rx
    obtain ⟨bs, r2⟩ := ay.rds I p2 ry
    exact PySem.W.gt_data r1 r2 p3 p4 (min60 hu p5) ⟨.bl _, H, I, rfl, k _ H R .refl (.bl _)⟩
  · cases e
theorem op_leP (hu : X.A.units + 64 < cLine) : OpD X (compareOp .LtE) leD := by
  intro p pins sh σ H O s x y v u dx dy z Q I R rx ry ax ay e k
  unfold leD at e
  split at e
  · rename_i ok
    cases e
    obtain ⟨p1, p2, p3, p4, p5⟩ := okLt_of ok
    obtain ⟨as, r1⟩ := ax.rds I p1 rx
    obtain ⟨bs, r2⟩ := ay.rds I p2 ry
    exact PySem.W.le_data r1 r2 p3 p4 (min60 hu p5) ⟨.bl _, H, I, rfl, k _ H R .refl (.bl _)⟩
  · cases e
theorem op_geP (hu : X.A.units + 64 < cLine) : OpD X (compareOp .GtE) geD := by
  intro p pins sh σ H O s x y v u dx dy z Q I R rx ry ax ay e k
  unfold geD at e
  split at e
  · rename_i ok
    cases e
    obtain ⟨p1, p2, p3, p4, p5⟩ := okLt_of ok
    obtain ⟨as, r1⟩ := ax.rds I p1 rx
    obtain ⟨bs, r2⟩ := ay.rds I p2 ry
    exact PySem.W.ge_data r1 r2 p3 p4 (min60 hu p5) ⟨.bl _, H, I, rfl, k _ H R .refl (.bl _)⟩
  · cases e
/-- x in c -/
def okIn (xs : List PyData) (d : PyData) : Bool := PyData.plainAll xs && d.plain && decide (min (PyData.depthAll xs) d.depth ≤ 60)
theorem okIn_of {xs : List PyData} {d : PyData} (h : okIn xs d = true) : PyData.plainAll xs = true ∧ d.plain = true ∧ min (PyData.depthAll xs) d.depth ≤ 60 := by
  unfold okIn at h
  simp only [Bool.and_eq_true, decide_eq_true_eq] at h
  exact ⟨h.1.1, h.1.2, h.2⟩
def isIn (dx : PyData) : PyData → Option Bool
  | .list xs => if okIn xs dx then some (xs.any fun y => PyData.eqv y dx) else none
  | .tuple xs => if okIn xs dx then some (xs.any fun y => PyData.eqv y dx) else none
  | .str y => match dx with
    | .str x => some (!(Builtin.Str.occurrences y x 0 y.length 1).isEmpty)
    | _ => none
  | .dict ((.bool t, .none) :: ds) => if keyFits t dx then some (lookD dx ds).isSome else none
  | _ => none
def inD (dx dy : PyData) : Option PyData := (isIn dx dy).map .bool
def notInD (dx dy : PyData) : Option PyData := (isIn dx dy).map fun b => .bool !b
theorem hu1 {A : Around} (hu : A.units + 64 < cLine) : A.units + 1 < cLine := by omega
theorem op_inP (hu : X.A.units + 64 < cLine) : OpD X (compareOp .In) inD := by
  intro p pins sh σ H O s x y v u dx dy z Q I R rx ry ax ay e k
  unfold inD at e
  cases ei : isIn dx dy with
  | none => rw [ei] at e; cases e
  | some b =>
    rw [ei] at e
    cases e
    have fin : EP X pins σ Q (.bool b) sh := ⟨.bl _, H, I, rfl, k _ H R .refl (.bl _)⟩
    unfold isIn at ei
    split at ei
    · split at ei
      · rename_i ok
        cases ei
        obtain ⟨p1, p2, p3⟩ := okIn_of ok
        obtain ⟨as, r1⟩ := ay.rds I (by simpa [PyData.plain] using p1) ry
        obtain ⟨bs, r2⟩ := ax.rds I p2 rx
        exact SeqAt.in_list_data r1 r2 p1 p2 (min61 hu p3) fin
      · cases ei
    · split at ei
      · rename_i ok
        cases ei
        obtain ⟨p1, p2, p3⟩ := okIn_of ok
        obtain ⟨as, r1⟩ := ay.rds I (by simpa [PyData.plain] using p1) ry
        obtain ⟨bs, r2⟩ := ax.rds I p2 rx
        exact SeqAt.in_tuple_data r1 r2 p1 p2 (min61 hu p3) fin
      · cases ei
    · split at ei
      · cases ei
        cases ax.str; cases ay.str
        exact op_in_str pins sh σ H _ _ v u Q I rx ry ⟨_, _, rfl, rfl, k _ H R .refl (.bl _)⟩
      · cases ei
    · split at ei
      · rename_i t ds f
        cases ei
        obtain ⟨a, o, rfl, g, g1, g2⟩ := AtE.dget ay ax f
        obtain rfl : u = Value.ref a := ry
        have eo : o.isSome = (lookD dx ds).isSome := by
          cases el : lookD dx ds with
          | none => rw [g2 el]; rfl
          | some d => obtain ⟨w, q, _⟩ := g1 d el; rw [q]; rfl
        rw [← eo] at k
        exact d_in (hu1 hu) I g rx fun s3 I3 => ⟨.bl o.isSome, H, I3, rfl, k _ H R .refl (.bl _)⟩
      · cases ei
    · cases ei
theorem op_notInP (hu : X.A.units + 64 < cLine) : OpD X (compareOp .NotIn) notInD := by
  intro p pins sh σ H O s x y v u dx dy z Q I R rx ry ax ay e k
  unfold notInD at e
  cases ei : isIn dx dy with
  | none => rw [ei] at e; cases e
  | some b =>
    rw [ei] at e
    cases e
    have fin : EP X pins σ Q (.bool !b) sh := ⟨.bl _, H, I, rfl, k _ H R .refl (.bl _)⟩
    unfold isIn at ei
    split at ei
    · split at ei
      · rename_i ok
        cases ei
        obtain ⟨p1, p2, p3⟩ := okIn_of ok
        obtain ⟨as, r1⟩ := ay.rds I (by simpa [PyData.plain] using p1) ry
        obtain ⟨bs, r2⟩ := ax.rds I p2 rx
        exact SeqAt.notIn_list_data r1 r2 p1 p2 (min61 hu p3) fin
      · cases ei
    · split at ei
      · rename_i ok
        cases ei
        obtain ⟨p1, p2, p3⟩ := okIn_of ok
        obtain ⟨as, r1⟩ := ay.rds I (by simpa [PyData.plain] using p1) ry
        obtain ⟨bs, r2⟩ := ax.rds I p2 rx
        exact SeqAt.notIn_tuple_data r1 r2 p1 p2 (min61 hu p3) fin
      · cases ei
    · split at ei
      · cases ei
        cases ax.str; cases ay.str
        exact L2.op_notin_str pins sh σ H _ _ v u Q I rx ry ⟨_, _, rfl, rfl, k _ H R .refl (.bl _)⟩
      · cases ei
    · split at ei
      · rename_i t ds f
        cases ei
        obtain ⟨a, o, rfl, g, g1, g2⟩ := AtE.dget ay ax f
        obtain rfl : u = Value.ref a := ry
        have eo : o.isSome = (lookD dx ds).isSome := by
          cases el : lookD dx ds with
          | none => rw [g2 el]; rfl
          | some d => obtain ⟨w, q, _⟩ := g1 d el; rw [q]; rfl
        rw [← eo] at k
        exact d_notIn (hu1 hu) I g rx fun s3 I3 => ⟨.bl (!o.isSome), H, I3, rfl, k _ H R .refl (.bl _)⟩
      · cases ei
    · cases ei
/-- is None, is not None -/
def isNone : PyData → Bool
  | .none => true
  | _ => false
def isD (dx dy : PyData) : Option PyData := match dy with
  | .none => some (.bool (isNone dx))
  | _ => none
def isNotD (dx dy : PyData) : Option PyData := match dy with
  | .none => some (.bool !(isNone dx))
  | _ => none
theorem AtE.isNon {x : V} (h : AtE K O H x d) : decide (x = V.non) = isNone d := by
  rcases h with h | ⟨b, rfl, h⟩
  · cases h <;> simp [isNone]
  · cases h <;> simp [isNone, dicD]
theorem op_isP : OpD X (compareOp .Is) isD := by
  intro p pins sh σ H O s x y v u dx dy z Q I R rx ry ax ay e k
  unfold isD at e
  split at e
  · cases e
    cases ay.non
    exact op_isN pins sh σ H _ _ v u Q I rx ry ⟨rfl, by rw [ax.isNon]; exact k _ H R .refl (.bl _)⟩
  · cases e
theorem op_isNotP : OpD X (compareOp .IsNot) isNotD := by
  intro p pins sh σ H O s x y v u dx dy z Q I R rx ry ax ay e k
  unfold isNotD at e
  split at e
  · cases e
    cases ay.non
    exact op_notN pins sh σ H _ _ v u Q I rx ry ⟨rfl, by rw [ax.isNon]; exact k _ H R .refl (.bl _)⟩
  · cases e

/-! ### a op1 b op2 c -/
variable {ea eb ec : Expr} {pos : Pos}
@[simp] def tChn (f g : PyData → PyData → Option PyData) (ta tb tc : PTL) : PTE := fun s Q => ta s fun x s1 => tb s1 fun y s2 => ∃ dx dy k, rd s2 x = some dx ∧ rd s2 y = some dy ∧ f dx dy = some (.bool k) ∧
  if k = true then tc s2 fun z s3 => ∃ dy' dz r, rd s3 y = some dy' ∧ rd s3 z = some dz ∧ g dy' dz = some r ∧ Q r s3 else Q (.bool false) s2
theorem OpD.bool {f : PyData → PyData → Option PyData} {g : Value → Value → Sem Value} (ho : OpD X g f) {pins : List (Addr × Obj)} {sh : Shared} {x y : V} {w u : Value} {dx dy : PyData} {k : Bool} {Q : Value → Shared → Prop} (I : Inv X pins σ H sh) (R : Rl X.K p O σ H s) (rx : RelV x w) (ry : RelV y u)
    (ax : AtE X.K O H x dx) (ay : AtE X.K O H y dy) (e : f dx dy = some (.bool k)) (h : ∀ s' H', Inv X pins σ H' s' → Rl X.K p O σ H' s → Kp O H O H' → Q (.bool k) s') : wpAny (model X.prog X.w) X.A (g w u) Q X.xe sh := by
  refine thn (ho p pins sh σ H O s x y w u dx dy (.bool k) (fun z H' => z = .bl k ∧ Rl X.K p O σ H' s ∧ Kp O H O H') I R rx ry ax ay e fun z H' R' k' a => ?_) fun z s' ⟨z', H', I', rz, ez, R', k'⟩ => ?_
  · cases a; exact ⟨rfl, R', k'⟩
  · subst ez
    obtain rfl : z = Value.bool k := rz
    exact h s' H' I' R' k'
theorem de_chn {op op' : CmpOp} {f g : PyData → PyData → Option PyData} {ta tb tc : PTL} (ho : OpD X (compareOp op) f) (ho' : OpD X (compareOp op') g) (ha : DL X ea ta) (hb : DL X eb tb) (hc : DL X ec tc)
    (hm : lastMarks [op, op'] [eb, ec] = false := by with_unfolding_all rfl) : DE X (.Compare ea [op, op'] [eb, ec] pos) (tChn f g ta tb tc) := by
  refine ⟨⟨fun pins sh σ H Q I h => ?_⟩, fun s Q Q' w q => ha.mono _ _ _ (fun x s1 q1 => hb.mono _ _ _ (fun y s2 ⟨dx, dy, k, e1, e2, e3, q2⟩ => ⟨dx, dy, k, e1, e2, e3, ?_⟩) q1) q⟩
  · obtain ⟨p, O, s, R, q⟩ := h
    refine Compare_chain (thn (ha.pe.run pins sh σ H _ I ⟨p, O, s, R, ha.mono _ _ _ (fun x s1 q1 vx O1 H1 R1 k1 a1 => show ∃ O1 s1 x, Rl X.K p O1 σ H1 s1 ∧ RvOk X.K p O1 σ H1 vx x ∧ Kp O H O1 H1 ∧ _ from ⟨O1, s1, x, R1, a1, k1, q1⟩) q⟩) fun v s1 ⟨vx, H1, I1, r1, O1, p1, x, R1, a1, k1, q1⟩ =>
      chain_link (thn (hb.pe.run pins s1 σ H1 _ I1 ⟨p, O1, p1, R1, hb.mono _ _ _ (fun y s2 q2 vy O2 H2 R2 k2 a2 => show ∃ O2 s2 y, Rl X.K p O2 σ H2 s2 ∧ RvOk X.K p O2 σ H2 vy y ∧ Kp O1 H1 O2 H2 ∧ _ from ⟨O2, s2, y, R2, a2, k2, q2⟩) q1⟩) fun u s2 ⟨vy, H2, I2, r2, O2, p2, y, R2, a2, k2, dx, dy, k, e1, e2, e3, q3⟩ => ?_)) hm
    refine ho.bool I2 R2 r1 r2 (R2.read (a1.to k2) e1) (R2.read a2 e2) e3 fun s3 H3 I3 R3 k3 => ?_
    refine wpAny_truthy_bool ?_
    cases k with
    | true =>
      simp only [if_true] at q3 ⊢
      refine chain_last (thn (hc.pe.run pins s3 σ H3 _ I3 ⟨p, O2, p2, R3, hc.mono _ _ _ (fun z s4 q4 vz O4 H4 R4 k4 a4 => show ∃ O4 s4 z, Rl X.K p O4 σ H4 s4 ∧ RvOk X.K p O4 σ H4 vz z ∧ Kp O2 H3 O4 H4 ∧ _ from ⟨O4, s4, z, R4, a4, k4, q4⟩) q3⟩) fun t s4 ⟨vz, H4, I4, r4, O4, p4, z, R4, a4, k4, dy', dz, r, f1, f2, f3, q5⟩ => ?_)
      exact ho' p pins s4 σ H4 O4 p4 vy vz u t dy' dz r Q I4 R4 r2 r4 (R4.read ((a2.to k3).to k4) f1) (R4.read a4 f2) f3 fun w H5 R5 k5 a5 => q5 w O4 H5 R5 ((k1.trans k2).trans (k3.trans (k4.trans k5))) a5
    | false =>
      simp only [Bool.false_eq_true, if_false] at q3 ⊢
      exact ⟨.bl false, H3, I3, rfl, q3 _ O2 H3 R3 ((k1.trans k2).trans k3) (.bl false)⟩
  · cases k with
    | true =>
      simp only [if_true] at q2 ⊢
      exact hc.mono _ _ _ (fun z s3 ⟨dy', dz, r, f1, f2, f3, q5⟩ => ⟨dy', dz, r, f1, f2, f3, w _ _ q5⟩) q2
    | false =>
      simp only [Bool.false_eq_true, if_false] at q2 ⊢
      exact w _ _ q2

/-! ### tests -/
abbrev PTT := PSt → (Bool → PSt → Prop) → Prop
def MonoT (t : PTT) : Prop := ∀ s Q Q', (∀ b s', Q b s' → Q' b s') → t s Q → t s Q'
def liftT (K : PySem.W.Frag) (t : PTT) : TT := fun σ H QB => ∃ p O s, Rl K p O σ H s ∧ t s fun b s' => ∀ O' H', Rl K p O' σ H' s' → Kp O H O' H' → QB b H'
structure DT (X : Cx) (e : Expr) (t : PTT) : Prop where
  pt : PT X e (liftT X.K t)
  mono : MonoT t
theorem PT.weak {X : Cx} {e : Expr} {t t' : TT} (h : PT X e t) (w : ∀ σ H Q, t' σ H Q → t σ H Q) : PT X e t' := ⟨fun pins s σ H Q I q => h.run pins s σ H Q I (w _ _ _ q)⟩
/-- a truth value's test -/
@[simp] def tBo (t : PTE) : PTT := fun s Q => t s fun d s' => ∃ b, d = .bool b ∧ Q b s'
theorem mono_bo {t : PTE} (h : Mono t) : MonoT (tBo t) := fun s Q Q' w q => h _ _ _ (fun d s' ⟨b, e, q⟩ => ⟨b, e, w _ _ q⟩) q
theorem dt_val {e : Expr} {t : PTE} (h : DE X e t) (he : ∀ whole, isTrue e X.env whole = (do let v ← whole; standAt e.pos; holding [v] (truthy v)) := by intro _; rfl) : DT X e (tBo t) := by
  refine ⟨PT.weak (pt_val h.pe he) fun σ H Q ⟨p, O, s, R, q⟩ => ⟨p, O, s, R, h.mono _ _ _ (fun d s' ⟨b, e, q⟩ v O' H' R' k' a => ?_) q⟩, mono_bo h.mono⟩
  subst e
  cases a
  exact ⟨b, rfl, q O' H' R' k'⟩
theorem dt_cmp {op : CmpOp} {f : PyData → PyData → Option PyData} {ta tb : PTL} (ho : OpD X (compareOp op) f) (ha : DL X ea ta) (hb : DL X eb tb)
    (hm : behindInMarks op eb = false := by first | exact nomark _ | rfl) : DT X (.Compare ea [op] [eb] pos) (tBo (tBin f ta tb)) := by
  refine ⟨⟨fun pins sh σ H Q I h => ?_⟩, mono_bo (mono_bin ha.mono hb.mono)⟩
  obtain ⟨p, O, s, R, q⟩ := h
  refine wpAny_isTrue_Compare1 (thn (ha.pe.run pins sh σ H _ I ⟨p, O, s, R, ha.mono _ _ _ (fun x s1 q1 vx O1 H1 R1 k1 a1 => show ∃ O1 s1 x, Rl X.K p O1 σ H1 s1 ∧ RvOk X.K p O1 σ H1 vx x ∧ Kp O H O1 H1 ∧ _ from ⟨O1, s1, x, R1, a1, k1, q1⟩) q⟩) fun v s1 ⟨vx, H1, I1, r1, O1, p1, x, R1, a1, k1, q1⟩ =>
    thn (hb.pe.run pins s1 σ H1 _ I1 ⟨p, O1, p1, R1, hb.mono _ _ _ (fun y s2 q2 vy O2 H2 R2 k2 a2 => show ∃ O2 s2 y, Rl X.K p O2 σ H2 s2 ∧ RvOk X.K p O2 σ H2 vy y ∧ Kp O1 H1 O2 H2 ∧ _ from ⟨O2, s2, y, R2, a2, k2, q2⟩) q1⟩) fun u s2 ⟨vy, H2, I2, r2, O2, p2, y, R2, a2, k2, dx, dy, z, e1, e2, e3, b, eb, q3⟩ => ?_) hm
  subst eb
  exact ho.bool I2 R2 r1 r2 (R2.read (a1.to k2) e1) (R2.read a2 e2) e3 fun s3 H3 I3 R3 k3 => wpAny_truthy_bool ⟨H3, I3, q3 O2 H3 R3 ((k1.trans k2).trans k3)⟩
theorem dt_chn {op op' : CmpOp} {f g : PyData → PyData → Option PyData} {ta tb tc : PTL} (ho : OpD X (compareOp op) f) (ho' : OpD X (compareOp op') g) (ha : DL X ea ta) (hb : DL X eb tb) (hc : DL X ec tc)
    (hm : lastMarks [op, op'] [eb, ec] = false := by with_unfolding_all rfl) : DT X (.Compare ea [op, op'] [eb, ec] pos) (tBo (tChn f g ta tb tc)) := by
  refine ⟨⟨fun pins sh σ H Q I h => ?_⟩, mono_bo (de_chn (pos := pos) ho ho' ha hb hc hm).mono⟩
  obtain ⟨p, O, s, R, q⟩ := h
  refine isTrue_chain (thn (ha.pe.run pins sh σ H _ I ⟨p, O, s, R, ha.mono _ _ _ (fun x s1 q1 vx O1 H1 R1 k1 a1 => show ∃ O1 s1 x, Rl X.K p O1 σ H1 s1 ∧ RvOk X.K p O1 σ H1 vx x ∧ Kp O H O1 H1 ∧ _ from ⟨O1, s1, x, R1, a1, k1, q1⟩) q⟩) fun v s1 ⟨vx, H1, I1, r1, O1, p1, x, R1, a1, k1, q1⟩ =>
    test_link (thn (hb.pe.run pins s1 σ H1 _ I1 ⟨p, O1, p1, R1, hb.mono _ _ _ (fun y s2 q2 vy O2 H2 R2 k2 a2 => show ∃ O2 s2 y, Rl X.K p O2 σ H2 s2 ∧ RvOk X.K p O2 σ H2 vy y ∧ Kp O1 H1 O2 H2 ∧ _ from ⟨O2, s2, y, R2, a2, k2, q2⟩) q1⟩) fun u s2 ⟨vy, H2, I2, r2, O2, p2, y, R2, a2, k2, dx, dy, k, e1, e2, e3, q3⟩ => ?_)) hm
  refine ho.bool I2 R2 r1 r2 (R2.read (a1.to k2) e1) (R2.read a2 e2) e3 fun s3 H3 I3 R3 k3 => ?_
  refine wpAny_truthy_bool ?_
  cases k with
  | true =>
    simp only [if_true] at q3 ⊢
    refine test_last (thn (hc.pe.run pins s3 σ H3 _ I3 ⟨p, O2, p2, R3, hc.mono _ _ _ (fun z s4 q4 vz O4 H4 R4 k4 a4 => show ∃ O4 s4 z, Rl X.K p O4 σ H4 s4 ∧ RvOk X.K p O4 σ H4 vz z ∧ Kp O2 H3 O4 H4 ∧ _ from ⟨O4, s4, z, R4, a4, k4, q4⟩) q3⟩) fun t s4 ⟨vz, H4, I4, r4, O4, p4, z, R4, a4, k4, dy', dz, r, f1, f2, f3, b, er, q5⟩ => ?_)
    subst er
    exact ho'.bool I4 R4 r2 r4 (R4.read ((a2.to k3).to k4) f1) (R4.read a4 f2) f3 fun s5 H5 I5 R5 k5 => wpAny_truthy_bool ⟨H5, I5, q5 O4 H5 R5 ((k1.trans k2).trans (k3.trans (k4.trans k5)))⟩
  | false =>
    simp only [Bool.false_eq_true, if_false] at q3 ⊢
    obtain ⟨b, eb, q3⟩ := q3
    cases eb
    exact ⟨H3, I3, q3 O2 H3 R3 ((k1.trans k2).trans k3)⟩
/-- by truth -/
@[simp] def okTru : PyData → Bool
  | .str x => decide (x.length ≤ sizeLine)
  | .dict _ => false
  | _ => true
@[simp] def truD : PyData → Bool
  | .dict (_ :: ds) => !ds.isEmpty
  | d => d.truthy
theorem AtL.empty {xs : List V} {ds : List PyData} (h : AtL K O H xs ds) : xs.isEmpty = ds.isEmpty := by cases h <;> rfl
theorem AtK.empty {xs : List (Key × V)} {ds : List (PyData × PyData)} (h : AtK K O H xs ds) : xs.isEmpty = ds.isEmpty := by cases h <;> rfl
theorem AtE.tru {x : V} (h : AtE K O H x d) (ok : okTru d = true) : TruV K x H (truD d) := by
  cases d with
  | none => cases h.non; exact rfl
  | bool b => cases h.bl; exact rfl
  | int i => cases h.int; exact rfl
  | str z => cases h.str; exact ⟨of_decide_eq_true ok, rfl⟩
  | list ds =>
    obtain ⟨a, xs, rfl, h1, h2⟩ := h.lst
    exact .inl ⟨xs, SqL.of h1, by rw [h2.empty]; rfl⟩
  | tuple ds =>
    obtain ⟨a, xs, rfl, h1, h2⟩ := h.tup
    exact .inr (.inl ⟨xs, h1.sq, by rw [h2.empty]; rfl⟩)
  | dict ds =>
    cases ok
@[simp] def tTr (t : PTL) : PTT := fun s Q => t s fun x s' => ∃ d, rd s' x = some d ∧ okTru d = true ∧ Q (truD d) s'
theorem dt_tru {e : Expr} {t : PTL} (h : DL X e t) (he : ∀ whole, isTrue e X.env whole = (do let v ← whole; standAt e.pos; holding [v] (truthy v)) := by intro _; rfl) : DT X e (tTr t) := by
  refine ⟨PT.weak (pt_truth h.pe he) fun σ H Q ⟨p, O, s, R, q⟩ => ⟨p, O, s, R, h.mono _ _ _ (fun x s' ⟨d, e, ok, q⟩ v O' H' R' k' a => ?_) q⟩, fun s Q Q' w q => h.mono _ _ _ (fun x s' ⟨d, e, ok, q⟩ => ⟨d, e, ok, w _ _ q⟩) q⟩
  exact ⟨_, (R'.read a e).tru ok, q O' H' R' k'⟩
@[simp] def tNt (t : PTT) : PTT := fun s Q => t s fun b s' => Q (!b) s'
theorem dt_not {e : Expr} {t : PTT} (h : DT X e t) : DT X (.UnaryOp .Not e pos) (tNt t) :=
  ⟨PT.weak (pt_not h.pt) fun σ H Q ⟨p, O, s, R, q⟩ => ⟨p, O, s, R, h.mono _ _ _ (fun b s' q O' H' R' k' => q O' H' R' k') q⟩, fun s Q Q' w q => h.mono _ _ _ (fun b s' => w (!b) s') q⟩
/-- .. in a row -/
structure DW (X : Cx) (e : Expr) (t : PTT) : Prop where
  pw : PW X e (liftT X.K t)
  mono : MonoT t
theorem DW.dt {e : Expr} {t : PTT} (h : DW X e t) : DT X e t := ⟨h.pw.pt, h.mono⟩
theorem PW.weak {X : Cx} {e : Expr} {t t' : TT} (h : PW X e t) (w : ∀ σ H Q, t' σ H Q → t σ H Q) : PW X e t' := ⟨fun wh pins s σ H Q I q => h.run wh pins s σ H Q I (w _ _ _ q)⟩
variable {rest : List Expr}
@[simp] def tAn (t u : PTT) : PTT := fun s Q => t s fun b s' => if b = true then u s' Q else Q false s'
@[simp] def tOr (t u : PTT) : PTT := fun s Q => t s fun b s' => if b = true then Q true s' else u s' Q
theorem mono_an {t u : PTT} (h : MonoT t) (k : MonoT u) : MonoT (tAn t u) := fun s Q Q' w q => h _ _ _ (fun b s' q => by
  cases b
  · simp only [Bool.false_eq_true, if_false] at q ⊢; exact w _ _ q
  · simp only [if_true] at q ⊢; exact k _ _ _ w q) q
theorem mono_or {t u : PTT} (h : MonoT t) (k : MonoT u) : MonoT (tOr t u) := fun s Q Q' w q => h _ _ _ (fun b s' q => by
  cases b
  · simp only [Bool.false_eq_true, if_false] at q ⊢; exact k _ _ _ w q
  · simp only [if_true] at q ⊢; exact w _ _ q) q
theorem dw_and1 {t : PTT} (h : DT X ea t) : DW X (.BoolOp .And [ea] pos) t := ⟨pw_and1 h.pt, h.mono⟩
theorem dw_or1 {t : PTT} (h : DT X ea t) : DW X (.BoolOp .Or [ea] pos) t := ⟨pw_or1 h.pt, h.mono⟩
theorem dw_and {t u : PTT} (h : DT X ea t) (k : DW X (.BoolOp .And (eb :: rest) pos) u) : DW X (.BoolOp .And (ea :: eb :: rest) pos) (tAn t u) := by
  refine ⟨PW.weak (pw_and h.pt k.pw) fun σ H Q ⟨p, O, s, R, q⟩ => ⟨p, O, s, R, h.mono _ _ _ (fun b s' q O' H' R' k' => ?_) q⟩, mono_an h.mono k.mono⟩
  cases b
  · simp only [Bool.false_eq_true, if_false] at q ⊢; exact q O' H' R' k'
  · simp only [if_true] at q ⊢
    exact ⟨p, O', s', R', k.mono _ _ _ (fun b s2 q2 O2 H2 R2 k2 => q2 O2 H2 R2 (k'.trans k2)) q⟩
theorem dw_or {t u : PTT} (h : DT X ea t) (k : DW X (.BoolOp .Or (eb :: rest) pos) u) : DW X (.BoolOp .Or (ea :: eb :: rest) pos) (tOr t u) := by
  refine ⟨PW.weak (pw_or h.pt k.pw) fun σ H Q ⟨p, O, s, R, q⟩ => ⟨p, O, s, R, h.mono _ _ _ (fun b s' q O' H' R' k' => ?_) q⟩, mono_or h.mono k.mono⟩
  cases b
  · simp only [Bool.false_eq_true, if_false] at q ⊢
    exact ⟨p, O', s', R', k.mono _ _ _ (fun b s2 q2 O2 H2 R2 k2 => q2 O2 H2 R2 (k'.trans k2)) q⟩
  · simp only [if_true] at q ⊢; exact q O' H' R' k'

/-! ### and, or, not as values; a if t else b -/
theorem At.tru {x : V} (h : At K O H x d) (ok : okTru d = true) : TruV K x H (truD d) := AtE.tru (.inl h) ok
@[simp] def tAnV (t u : PTE) : PTE := fun s Q => t s fun d s' => okTru d = true ∧ if truD d = true then u s' Q else Q d s'
@[simp] def tOrV (t u : PTE) : PTE := fun s Q => t s fun d s' => okTru d = true ∧ if truD d = true then Q d s' else u s' Q
@[simp] def tNtV (t : PTL) : PTE := fun s Q => t s fun x s' => ∃ d, rd s' x = some d ∧ okTru d = true ∧ Q (.bool !(truD d)) s'
theorem de_one {op} {t : PTE} (h : DE X ea t) : DE X (.BoolOp op [ea] pos) t := ⟨pe_one h.pe, h.mono⟩
theorem de_and {t u : PTE} (h : DE X ea t) (k : DE X (.BoolOp .And (eb :: rest) pos) u) : DE X (.BoolOp .And (ea :: eb :: rest) pos) (tAnV t u) := by
  refine ⟨PE.weak (pe_andT h.pe k.pe) fun σ H Q ⟨p, O, s, R, q⟩ => ⟨p, O, s, R, h.mono _ _ _ (fun d s' ⟨ok, q⟩ v O' H' R' k' a => ⟨_, a.tru ok, ?_⟩) q⟩, fun s Q Q' w q => h.mono _ _ _ (fun d s' ⟨ok, q⟩ => ⟨ok, ?_⟩) q⟩
  · split
    · rename_i e; rw [if_pos e] at q
      exact ⟨p, O', s', R', k.mono _ _ _ (fun d s2 q2 v2 O2 H2 R2 k2 a2 => q2 v2 O2 H2 R2 (k'.trans k2) a2) q⟩
    · rename_i e; rw [if_neg e] at q; exact q v O' H' R' k' a
  · split
    · rename_i e; rw [if_pos e] at q; exact k.mono _ _ _ w q
    · rename_i e; rw [if_neg e] at q; exact w _ _ q
theorem de_or {t u : PTE} (h : DE X ea t) (k : DE X (.BoolOp .Or (eb :: rest) pos) u) : DE X (.BoolOp .Or (ea :: eb :: rest) pos) (tOrV t u) := by
  refine ⟨PE.weak (pe_orT h.pe k.pe) fun σ H Q ⟨p, O, s, R, q⟩ => ⟨p, O, s, R, h.mono _ _ _ (fun d s' ⟨ok, q⟩ v O' H' R' k' a => ⟨_, a.tru ok, ?_⟩) q⟩, fun s Q Q' w q => h.mono _ _ _ (fun d s' ⟨ok, q⟩ => ⟨ok, ?_⟩) q⟩
  · split
    · rename_i e; rw [if_pos e] at q; exact q v O' H' R' k' a
    · rename_i e; rw [if_neg e] at q
      exact ⟨p, O', s', R', k.mono _ _ _ (fun d s2 q2 v2 O2 H2 R2 k2 a2 => q2 v2 O2 H2 R2 (k'.trans k2) a2) q⟩
  · split
    · rename_i e; rw [if_pos e] at q; exact w _ _ q
    · rename_i e; rw [if_neg e] at q; exact k.mono _ _ _ w q
theorem de_not {t : PTL} (h : DL X ea t) : DE X (.UnaryOp .Not ea pos) (tNtV t) :=
  ⟨PE.weak (pe_notT h.pe) fun σ H Q ⟨p, O, s, R, q⟩ => ⟨p, O, s, R, h.mono _ _ _ (fun x s' ⟨d, e, ok, q⟩ v O' H' R' k' a => ⟨_, (R'.read a e).tru ok, q _ O' H' R' k' (.bl _)⟩) q⟩, fun s Q Q' w q => h.mono _ _ _ (fun x s' ⟨d, e, ok, q⟩ => ⟨d, e, ok, w _ _ q⟩) q⟩
@[simp] def tIfE (t : PTT) (u w : PTE) : PTE := fun s Q => t s fun b s' => if b = true then u s' Q else w s' Q
theorem de_if {t : PTT} {u w : PTE} (h : DT X ec t) (k : DE X ea u) (l : DE X eb w) : DE X (.IfExp ec ea eb pos) (tIfE t u w) := by
  refine ⟨PE.weak (pe_ifExp h.pt k.pe l.pe) fun σ H Q ⟨p, O, s, R, q⟩ => ⟨p, O, s, R, h.mono _ _ _ (fun b s' q O' H' R' k' => ?_) q⟩, fun s Q Q' z q => h.mono _ _ _ (fun b s' q => ?_) q⟩
  · cases b
    · exact ⟨p, O', s', R', l.mono _ _ _ (fun d s2 q2 v2 O2 H2 R2 k2 a2 => q2 v2 O2 H2 R2 (k'.trans k2) a2) q⟩
    · exact ⟨p, O', s', R', k.mono _ _ _ (fun d s2 q2 v2 O2 H2 R2 k2 a2 => q2 v2 O2 H2 R2 (k'.trans k2) a2) q⟩
  · cases b
    · exact l.mono _ _ _ z q
    · exact k.mono _ _ _ z q
end
end PD
end
section
set_option Elab.async false
set_option linter.all false
set_option maxRecDepth 100000
set_option maxHeartbeats 4000000
/-! PD6: argument lists, displays, subscripts, slices over data. -/
namespace PD
open PySem PySem.Spec PyProof.Rows L2

abbrev PTA := PSt → (List PyData → PSt → Prop) → Prop
def MonoA (t : PTA) : Prop := ∀ s Q Q', (∀ d s', Q d s' → Q' d s') → t s Q → t s Q'
def liftA (K : PySem.W.Frag) (t : PTA) : TA := fun σ H QV => ∃ p O s, Rl K p O σ H s ∧ t s fun ds s' => ∀ vs O' H', Rl K p O' σ H' s' → Kp O H O' H' → AtL K O' H' vs ds → QV vs H'
structure DA (X : Cx) (es : List Expr) (t : PTA) : Prop where
  pa : PA X es (liftA X.K t)
  mono : MonoA t
theorem PA.weak {X : Cx} {e : List Expr} {t t' : TA} (h : PA X e t) (w : ∀ σ H Q, t' σ H Q → t σ H Q) : PA X e t' := ⟨fun pos pins s σ H Q I q => h.run pos pins s σ H Q I (w _ _ _ q)⟩
section
variable {K : PySem.W.Frag} {X : Cx} {p : Pm} {O O' : Ow} {σ : L2.St} {H H' : Hp} {s : PSt} {v : V} {d : PyData} {a : Addr} {e ea eb : Expr} {es : List Expr} {pos : Pos}
@[simp] def tNl : PTA := fun s Q => Q [] s
@[simp] def tCn (t : PTE) (u : PTA) : PTA := fun s Q => t s fun d s1 => u s1 fun ds s2 => Q (d :: ds) s2
theorem da_nil : DA X [] tNl := ⟨PA.weak pa_nil fun σ H Q ⟨p, O, s, R, q⟩ => q [] O H R .refl .nil, fun s Q Q' w q => w _ _ q⟩
theorem da_cons {t : PTE} {u : PTA} (h : DE X e t) (k : DA X es u) (hs : starEach (e :: es) X.env = (false, eval e X.env) :: starEach es X.env := by rfl) : DA X (e :: es) (tCn t u) :=
  ⟨PA.weak (pa_cons h.pe k.pa hs) fun σ H Q ⟨p, O, s, R, q⟩ => ⟨p, O, s, R, h.mono _ _ _ (fun d s1 q1 v1 O1 H1 R1 k1 a1 => ⟨p, O1, s1, R1, k.mono _ _ _ (fun ds s2 q2 vs O2 H2 R2 k2 a2 => q2 (v1 :: vs) O2 H2 R2 (k1.trans k2) (.cons (a1.to k2) a2)) q1⟩) q⟩,
    fun s Q Q' w q => h.mono _ _ _ (fun d s1 q1 => k.mono _ _ _ (fun ds s2 => w (d :: ds) s2) q1) q⟩

/-! ### displays -/
@[simp] def tTp (t : PTA) : PTE := fun s Q => t s fun ds s' => ds.length ≤ sizeLine ∧ Q (.tuple ds) s'
@[simp] def tLs (t : PTA) : PTE := fun s Q => t s fun ds s' => ds.length ≤ sizeLine ∧ Q (.list ds) s'
theorem mono_tp {t : PTA} (h : MonoA t) : Mono (tTp t) := fun s Q Q' w q => h _ _ _ (fun ds s' q => ⟨q.1, w _ _ q.2⟩) q
theorem mono_ls {t : PTA} (h : MonoA t) : Mono (tLs t) := fun s Q Q' w q => h _ _ _ (fun ds s' q => ⟨q.1, w _ _ q.2⟩) q
theorem de_tup {x1} {t : PTA} (h : DA X es t) : DE X (.Tuple es x1 pos) (tTp t) :=
  ⟨PE.weak (pe_tup h.pa) fun σ H Q ⟨p, O, s, R, q⟩ => ⟨p, O, s, R, h.mono _ _ _ (fun ds s' ⟨z, q⟩ vs O' H' R' k' a => ⟨by rw [a.len]; exact z, fun l hl => by
    obtain ⟨f1, f2, f3⟩ := fin_tup R' hl a
    exact q _ _ _ f1 (k'.trans f2) f3⟩) q⟩, mono_tp h.mono⟩
theorem df_lst {t : PTA} (h : DA X es t) : DF X (.List es pos) (tLs t) :=
  ⟨PE.weak (pe_lst h.pa) fun σ H Q ⟨p, O, s, R, q⟩ => ⟨p, O, s, R, h.mono _ _ _ (fun ds s' ⟨z, q⟩ vs O' H' R' k' a => ⟨by rw [a.len]; exact z, fun l hl => by
    obtain ⟨f1, f2, f3⟩ := fin_lone R' hl a
    exact q _ _ _ f1 (k'.trans f2) f3⟩) q⟩, mono_ls h.mono⟩
/-- {}: its keys ints and texts, or tuples -/
theorem fin_dic {q : Addr} {t : Bool} (R : Rl K p O σ H s) (hq : H q = none) : Rl K p (O.with q) σ (upd H q (if t then .dT [] else .dK [])) s ∧ Kp O H (O.with q) (upd H q (if t then .dT [] else .dK [])) ∧ Lone K p (O.with q) σ (upd H q (if t then .dT [] else .dK [])) s q (dicD t []) :=
  ⟨R.newOwn hq (by cases t <;> exact True.intro), Kp.newOwn hq, .inr rfl, (R.fresh hq).1, (R.fresh hq).2.1, by cases t <;> first | exact .dicK upd_same .nil | exact .dicT upd_same .nil, (R.fresh hq).2.2⟩
@[simp] def tDn (t : Bool) : PTE := fun s Q => Q (dicD t []) s
theorem df_dicK : DF X (.Dict [] [] pos) (tDn false) :=
  ⟨PE.weak pe_dnewK fun σ H Q ⟨p, O, s, R, q⟩ l hl => by
    obtain ⟨f1, f2, f3⟩ := fin_dic (t := false) R hl
    exact q _ _ _ f1 f2 f3, fun s Q Q' w q => w _ _ q⟩
theorem df_dicT : DF X (.Dict [] [] pos) (tDn true) :=
  ⟨PE.weak pe_dnewT fun σ H Q ⟨p, O, s, R, q⟩ l hl => by
    obtain ⟨f1, f2, f3⟩ := fin_dic (t := true) R hl
    exact q _ _ _ f1 f2 f3, fun s Q Q' w q => w _ _ q⟩

/-! ### fresh results of operators -/
def catL : PyData → PyData → Option PyData
  | .list xs, .list ys => if xs.length + ys.length ≤ sizeLine then some (.list (xs ++ ys)) else none
  | _, _ => none
def repL : PyData → PyData → Option PyData
  | .list xs, .int n => if -(2 ^ 63) ≤ n ∧ n < 2 ^ 63 ∧ xs.length * n.toNat ≤ sizeLine then some (.list (repD n xs)) else none
  | _, _ => none
def OpF (X : Cx) (g : Value → Value → Sem Value) (f : PyData → PyData → Option PyData) : Prop :=
  ∀ (p : Pm) (pins : List (Addr × Obj)) (sh : Shared) (σ : L2.St) (H : Hp) (O : Ow) (s : PSt) (x y : V) (v u : Value) (dx dy z : PyData) (QV : VK), Inv X pins σ H sh → Rl X.K p O σ H s → RelV x v → RelV y u →
    AtE X.K O H x dx → AtE X.K O H y dy → f dx dy = some z → (∀ a O' H', Rl X.K p O' σ H' s → Kp O H O' H' → Lone X.K p O' σ H' s a z → QV (.ref a) H') → wpAny (model X.prog X.w) X.A (g v u) (EP X pins σ QV) X.xe sh
theorem df_op {op : Operator} {f : PyData → PyData → Option PyData} {ta tb : PTL} (ho : OpF X (binaryOp op) f) (ha : DL X ea ta) (hb : DL X eb tb) : DF X (.BinOp ea op eb pos) (tBin f ta tb) := by
  refine ⟨⟨fun pins sh σ H Q I h => ?_⟩, mono_bin ha.mono hb.mono⟩
  obtain ⟨p, O, s, R, q⟩ := h
  refine wpAny_BinOp (binT ha.pe hb.pe I (two (T := fun x y H2 => ∃ O' s' dx dy z, Rl X.K p O' σ H2 s' ∧ AtE X.K O' H2 x dx ∧ AtE X.K O' H2 y dy ∧ f dx dy = some z ∧ ∀ a O3 H3, Rl X.K p O3 σ H3 s' → Kp O' H2 O3 H3 → Lone X.K p O3 σ H3 s' a z → Q (.ref a) H3) ha hb R q ?_) fun v u s2 x y H2 I2 rx ry q2 => ?_)
  · rintro x y vx vy O' H' s' R' k' a1 a2 ⟨dx, dy, z, e1, e2, e3, q3⟩
    exact ⟨O', s', dx, dy, z, R', R'.read a1 e1, R'.read a2 e2, e3, fun w O3 H3 R3 k3 a3 => q3 w O3 H3 R3 (k'.trans k3) a3⟩
  · obtain ⟨O', s', dx, dy, z, R', a1, a2, e3, q3⟩ := q2
    exact ho p pins s2 σ H2 O' s' x y v u dx dy z Q I2 R' rx ry a1 a2 e3 q3
theorem op_catF : OpF X (binaryOp .Add) catL := by
  intro p pins sh σ H O s x y v u dx dy z Q I R rx ry ax ay e k
  unfold catL at e
  split at e
  · split at e
    · rename_i xs ys hz
      cases e
      obtain ⟨a, vs, rfl, h1, h2⟩ := ax.lst
      obtain ⟨b, ws, rfl, h3, h4⟩ := ay.lst
      refine op_cat pins sh σ H _ _ v u Q I rx ry ⟨_, _, vs, ws, rfl, rfl, h1, h3, by rw [h2.len, h4.len]; exact hz, fun q hq => ?_⟩
      obtain ⟨f1, f2, f3⟩ := fin_lone R hq (h2.append h4)
      exact k _ _ _ f1 f2 f3
    · cases e
  · cases e
theorem op_repF : OpF X (binaryOp .Mult) repL := by
  intro p pins sh σ H O s x y v u dx dy z Q I R rx ry ax ay e k
  unfold repL at e
  split at e
  · split at e
    · rename_i hz
      cases e
      obtain ⟨a, vs, rfl, h1, h2⟩ := ax.lst
      cases ay.int
      refine op_rep pins sh σ H _ _ v u Q I rx ry ⟨_, _, vs, rfl, rfl, h1, hz.1, hz.2.1, by rw [h2.len]; exact hz.2.2, fun q hq => ?_⟩
      obtain ⟨f1, f2, f3⟩ := fin_lone R hq (h2.rep _)
      exact k _ _ _ f1 f2 f3
    · cases e
  · cases e

/-! ### subscripts -/
def ixD : PyData → PyData → Option PyData
  | .list xs, .int i => atI xs i
  | .tuple xs, .int i => atI xs i
  | .str z, .int i => if z.length ≤ sizeLine then (atI z.cps.toList i).map fun c => .str ⟨#[c]⟩ else none
  | .dict ((.bool t, .none) :: ds), k => if keyFits t k then lookD k ds else none
  | _, _ => none
theorem AtL.atI {xs : List V} {ds : List PyData} {i : Int} {d : PyData} (h : AtL K O H xs ds) (e : L2.atI ds i = some d) : ∃ v, L2.atI xs i = some v ∧ At K O H v d := by
  unfold L2.atI at e ⊢
  rw [h.len]
  cases q : ixN ds.length i with
  | none => rw [q] at e; cases e
  | some j =>
    rw [q] at e
    obtain ⟨v, e1, e2⟩ := h.get' (show ds[j]? = some d from e)
    exact ⟨v, e1, e2⟩
def rIxDic : R2 := fun x y H Q => ∃ a v, x = .ref a ∧ DGet H a y (some v) ∧ Q v H
theorem ix_dic (hu : X.A.units + 1 < cLine) : IxR X rIxDic := by
  intro value slice pins sh σ H x y v u Q I rx ry h hs
  obtain ⟨a, w, rfl, g, q⟩ := h
  obtain rfl : v = Value.ref a := rx
  have hT := dict_typeIs I g
  unfold subscriptTail
  refine wpAny_bind ?_
  rw [getitemInPython_of_ne hT.not_modules]
  refine wpAny_bind (wpAny_specialOf hT PySem.F.slot_dict_getitem.lookup ?_)
  have fin : wpAny (model X.prog X.w) X.A (subscripted slice false (.ref a) u) (fun r s₃ => wpAny (model X.prog X.w) X.A (letTemporaryGo value (.ref a) r >>= fun _ => pure r) (EP X pins σ Q) X.xe s₃) X.xe sh := by
    rw [hs]
    exact wpAny_operating (wpAny_mono (d_getItem hu I g ry fun w' s3 I3 rw' => (⟨w, H, I3, rw', q⟩ : EP X pins σ Q w' s3)) (fun r s₃ h₃ => wpAny_bind (wpAny_letTemporaryGo (wpAny_pure h₃))) fun _ _ x => x)
  first
    | exact wpAny_pure (wpAny_bind fin)
    | exact wpAny_bind (wpAny_pure (wpAny_bind fin))
    | exact wpAny_bind fin
theorem de_ix {ta tb : PTL} (hu : X.A.units + 64 < cLine) (ha : DL X ea ta) (hb : DL X eb tb) (hs : PlainIx eb := by exact fun _ _ => rfl) : DE X (.Subscript ea eb pos) (tBin ixD ta tb) := by
  refine ⟨PE.weak (pe_ix ((ix_list.or (ix_tup.or ix_str)).or (ix_dic (hu1 hu))) ha.pe hb.pe hs) fun σ H Q ⟨p, O, s, R, q⟩ => two ha hb R q ?_, mono_bin ha.mono hb.mono⟩
  rintro x y vx vy O' H' s' R' k' a1 a2 ⟨dx, dy, z, e1, e2, e3, q3⟩
  have ax := R'.read a1 e1
  have ay := R'.read a2 e2
  unfold ixD at e3
  split at e3
  · obtain ⟨a, xs, rfl, h1, h2⟩ := ax.lst
    cases ay.int
    obtain ⟨w, f1, f2⟩ := h2.atI e3
    exact .inl (.inl ⟨a, xs, _, w, rfl, rfl, SqL.of h1, f1, q3 w O' H' R' k' f2⟩)
  · obtain ⟨a, xs, rfl, h1, h2⟩ := ax.tup
    cases ay.int
    obtain ⟨w, f1, f2⟩ := h2.atI e3
    exact .inl (.inr (.inl ⟨a, xs, _, w, rfl, rfl, h1.sq, f1, q3 w O' H' R' k' f2⟩))
  · split at e3
    · rename_i hz
      cases ax.str
      cases ay.int
      cases q : L2.atI _ _ with
      | none => rw [q] at e3; cases e3
      | some c =>
        rw [q] at e3
        cases e3
        exact .inl (.inr (.inr ⟨_, _, c, rfl, rfl, hz, q, q3 _ O' H' R' k' (.str _)⟩))
    · cases e3
  · split at e3
    · rename_i f
      obtain ⟨a, o, rfl, g, g1, g2⟩ := ax.dget ay f
      obtain ⟨w, rfl, hw⟩ := g1 _ e3
      exact .inr ⟨a, w, rfl, g, q3 w O' H' R' k' hw⟩
    · cases e3
  · cases e3

/-! ### slices -/
def cutD (xs : List PyData) (lo hi : Option Int) : List PyData := (xs.drop (HT.sIx xs.length 0 lo)).take (HT.sIx xs.length xs.length hi - HT.sIx xs.length 0 lo)
theorem AtL.cut {xs : List V} {ds : List PyData} (h : AtL K O H xs ds) (lo hi : Option Int) : AtL K O H (cutV xs lo hi) (cutD ds lo hi) := by
  unfold cutV cutD
  rw [h.len]
  exact (h.drop _).take _
theorem cutV_whole {xs : List V} {lo hi : Option Int} (h : HT.sIx xs.length 0 lo = 0 ∧ HT.sIx xs.length xs.length hi = xs.length) : cutV xs lo hi = xs := by
  unfold cutV
  rw [h.1, h.2]
  simp
abbrev PTO := PSt → (Option Int → PSt → Prop) → Prop
def liftO (K : PySem.W.Frag) (t : PTO) : TO := fun σ H QV => ∃ p O s, Rl K p O σ H s ∧ t s fun o s' => ∀ O' H', Rl K p O' σ H' s' → Kp O H O' H' → QV o H'
structure DO (X : Cx) (e : Option Expr) (t : PTO) : Prop where
  po : PO X e (liftO X.K t)
  mono : ∀ s Q Q', (∀ d s', Q d s' → Q' d s') → t s Q → t s Q'
theorem PO.weak {X : Cx} {e : Option Expr} {t t' : TO} (h : PO X e t) (w : ∀ σ H Q, t' σ H Q → t σ H Q) : PO X e t' := ⟨fun pins s σ H Q I q => h.run pins s σ H Q I (w _ _ _ q)⟩
@[simp] def tNoP : PTO := fun s Q => Q none s
@[simp] def tPrt (t : PTE) : PTO := fun s Q => t s fun d s' => ∃ i, d = .int i ∧ Q (some i) s'
theorem do_none : DO X none tNoP := ⟨PO.weak po_none fun σ H Q ⟨p, O, s, R, q⟩ => q O H R .refl, fun s Q Q' w q => w _ _ q⟩
theorem do_some {t : PTE} (h : DE X e t) : DO X (some e) (tPrt t) :=
  ⟨PO.weak (po_some h.pe) fun σ H Q ⟨p, O, s, R, q⟩ => ⟨p, O, s, R, h.mono _ _ _ (fun d s' ⟨i, ei, q⟩ v O' H' R' k' a => by
    subst ei
    cases a
    exact ⟨i, rfl, q O' H' R' k'⟩) q⟩, fun s Q Q' w q => h.mono _ _ _ (fun d s' ⟨i, ei, q⟩ => ⟨i, ei, w _ _ q⟩) q⟩
def slD (d : PyData) (lo hi : Option Int) : Option PyData := match d with
  | .list xs => some (.list (cutD xs lo hi))
  | .tuple xs => some (.tuple (cutD xs lo hi))
  | .str z => if z.length ≤ sizeLine then some (.str (cutS z lo hi)) else none
  | _ => none
def slF (d : PyData) (lo hi : Option Int) : Option PyData := match d with
  | .list xs => some (.list (cutD xs lo hi))
  | _ => none
@[simp] def tSlc (f : PyData → Option Int → Option Int → Option PyData) (t : PTL) (tl th : PTO) : PTE := fun s Q => t s fun x s1 => tl s1 fun l s2 => th s2 fun h s3 => ∃ d z, rd s3 x = some d ∧ f d l h = some z ∧ Q z s3
theorem mono_slc {f : PyData → Option Int → Option Int → Option PyData} {t : PTL} {tl th : PTO} {lo hi : Option Expr} (ha : DL X e t) (hl : DO X lo tl) (hh : DO X hi th) : Mono (tSlc f t tl th) := fun s Q Q' w q =>
  ha.mono _ _ _ (fun x s1 q1 => hl.mono _ _ _ (fun l s2 q2 => hh.mono _ _ _ (fun h s3 ⟨d, z, e1, e2, q3⟩ => ⟨d, z, e1, e2, w _ _ q3⟩) q2) q1) q
theorem slc_of {t : PTL} {tl th : PTO} {lo hi : Option Expr} {r : V → Option Int → Option Int → Hp → VK → Prop} {Q : VK} {U : Rv → Option Int → Option Int → PSt → Prop} (ha : DL X e t) (hl : DO X lo tl) (hh : DO X hi th) (R : Rl X.K p O σ H s)
    (q : t s fun x s1 => tl s1 fun l s2 => th s2 fun h s3 => U x l h s3)
    (k : ∀ x l h vx O' H' s', Rl X.K p O' σ H' s' → Kp O H O' H' → RvOk X.K p O' σ H' vx x → U x l h s' → r vx l h H' Q) :
    L2.tSl r (liftL X.K t) (liftO X.K tl) (liftO X.K th) σ H Q :=
  ⟨p, O, s, R, ha.mono _ _ _ (fun x s1 q1 vx O1 H1 R1 k1 a1 => ⟨p, O1, s1, R1, hl.mono _ _ _ (fun l s2 q2 O2 H2 R2 k2 => ⟨p, O2, s2, R2, hh.mono _ _ _ (fun h s3 q3 O3 H3 R3 k3 =>
    k x l h vx O3 H3 s3 R3 ((k1.trans k2).trans k3) (a1.to (k2.trans k3)) q3) q2⟩) q1⟩) q⟩
variable {lo hi : Option Expr} {p2 : Pos}
theorem de_slice {t : PTL} {tl th : PTO} (ha : DL X e t) (hl : DO X lo tl) (hh : DO X hi th) : DE X (.Subscript e (.Slice lo hi none p2) pos) (tSlc slD t tl th) := by
  refine ⟨PE.weak (pe_slice (sl_list.or (sl_tupA.or sl_str)) ha.pe hl.po hh.po) fun σ H Q ⟨p, O, s, R, q⟩ => slc_of ha hl hh R q ?_, mono_slc ha hl hh⟩
  rintro x l h vx O' H' s' R' k' a1 ⟨d, z, e1, e2, q3⟩
  have ax := R'.read a1 e1
  unfold slD at e2
  split at e2
  · cases e2
    obtain ⟨a, xs, rfl, h1, h2⟩ := ax.lst
    refine .inl ⟨a, xs, rfl, SqL.of h1, fun q hq => ?_⟩
    obtain ⟨f1, f2, f3⟩ := fin_lst R' hq (h2.cut l h)
    exact q3 _ _ _ f1 (k'.trans f2) f3
  · cases e2
    obtain ⟨a, xs, rfl, h1, h2⟩ := ax.tup
    refine .inr (.inl ⟨a, xs, rfl, h1.sq, fun w => q3 _ O' H' R' k' ?_, fun w q hq => ?_⟩)
    · have := h2.cut l h
      rw [cutV_whole w] at this
      exact .tup h1 this
    · obtain ⟨f1, f2, f3⟩ := fin_tup R' hq (h2.cut l h)
      exact q3 _ _ _ f1 (k'.trans f2) f3
  · split at e2
    · rename_i hz
      cases e2
      cases ax.str
      exact .inr (.inr ⟨_, rfl, hz, q3 _ O' H' R' k' (.str _)⟩)
    · cases e2
  · cases e2
theorem df_slice {t : PTL} {tl th : PTO} (ha : DL X e t) (hl : DO X lo tl) (hh : DO X hi th) : DF X (.Subscript e (.Slice lo hi none p2) pos) (tSlc slF t tl th) := by
  refine ⟨PE.weak (pe_slice sl_list ha.pe hl.po hh.po) fun σ H Q ⟨p, O, s, R, q⟩ => slc_of ha hl hh R q ?_, mono_slc ha hl hh⟩
  rintro x l h vx O' H' s' R' k' a1 ⟨d, z, e1, e2, q3⟩
  have ax := R'.read a1 e1
  unfold slF at e2
  split at e2
  · cases e2
    obtain ⟨a, xs, rfl, h1, h2⟩ := ax.lst
    refine ⟨a, xs, rfl, SqL.of h1, fun q hq => ?_⟩
    obtain ⟨f1, f2, f3⟩ := fin_lone R' hq (h2.cut l h)
    exact q3 _ _ _ f1 (k'.trans f2) f3
  · cases e2
/-! xs[::-1] of a list -/
def tRv (t : PTL) : PTE := fun s Q => t s fun x s' => ∃ ds, rd s' x = some (.list ds) ∧ Q (.list ds.reverse) s'
theorem df_rev {t : PTL} {k : Nat} {q1 q2 q3 : Pos} (ha : DL X e t) : DF X (.Subscript e (.Slice none none (some (.UnaryOp .USub (.Constant (.int 1) k q1) q2)) q3) pos) (tRv t) :=
  ⟨PE.weak (pe_revL ha.pe) fun σ H Q ⟨p, O, s, R, q⟩ => ⟨p, O, s, R, ha.mono _ _ _ (fun x s' ⟨ds, e, q⟩ v O' H' R' k' a => by
    obtain ⟨b, xs, rfl, h1, h2⟩ := (R'.read a e).lst
    refine ⟨b, xs, rfl, SqL.of h1, fun l hl => ?_⟩
    obtain ⟨f1, f2, f3⟩ := fin_lone R' hl h2.reverse
    exact q _ _ _ f1 (k'.trans f2) f3) q⟩, fun s Q Q' w q => ha.mono _ _ _ (fun x s' ⟨ds, e, q⟩ => ⟨ds, e, w _ _ q⟩) q⟩
end
end PD
end
section
set_option Elab.async false
set_option linter.all false
set_option maxRecDepth 100000
set_option maxHeartbeats 4000000
/-! PD7: calls of built-ins over data. -/
namespace PD
open PySem PySem.Spec PyProof.Rows L2

inductive RvL (K : PySem.W.Frag) (p : Pm) (O : Ow) (σ : L2.St) (H : Hp) : List V → List Rv → Prop
  | nil : RvL K p O σ H [] []
  | cons {v : V} {vs : List V} {r : Rv} {rs : List Rv} : RvOk K p O σ H v r → RvL K p O σ H vs rs → RvL K p O σ H (v :: vs) (r :: rs)
inductive AtEL (K : PySem.W.Frag) (O : Ow) (H : Hp) : List V → List PyData → Prop
  | nil : AtEL K O H [] []
  | cons {v : V} {vs : List V} {r : PyData} {rs : List PyData} : AtE K O H v r → AtEL K O H vs rs → AtEL K O H (v :: vs) (r :: rs)
@[simp] def rds (s : PSt) : List Rv → Option (List PyData)
  | [] => some []
  | r :: rs => (rd s r).bind fun d => (rds s rs).map (d :: ·)
abbrev PTLs := PSt → (List Rv → PSt → Prop) → Prop
def liftLs (K : PySem.W.Frag) (t : PTLs) : TA := fun σ H QV => ∃ p O s, Rl K p O σ H s ∧ t s fun rs s' => ∀ vs O' H', Rl K p O' σ H' s' → Kp O H O' H' → RvL K p O' σ H' vs rs → QV vs H'
structure DLs (X : Cx) (es : List Expr) (t : PTLs) : Prop where
  pa : PA X es (liftLs X.K t)
  mono : ∀ s Q Q', (∀ d s', Q d s' → Q' d s') → t s Q → t s Q'
section
variable {K : PySem.W.Frag} {X : Cx} {p : Pm} {O O' : Ow} {σ : L2.St} {H H' : Hp} {s : PSt} {v : V} {d : PyData} {a : Addr} {e ea eb : Expr} {es : List Expr} {pos : Pos}
theorem RvL.to (k : Kp O H O' H') : ∀ {vs : List V} {rs : List Rv}, RvL K p O σ H vs rs → RvL K p O' σ H' vs rs
  | _, _, .nil => .nil
  | _, _, .cons h t => .cons (h.to k) (RvL.to k t)
theorem Rl.reads (R : Rl K p O σ H s) : ∀ {vs : List V} {rs : List Rv} {ds : List PyData}, RvL K p O σ H vs rs → rds s rs = some ds → AtEL K O H vs ds
  | _, _, _, .nil, e => by cases e; exact .nil
  | _, _, ds, .cons (r := r) (rs := rs) h t, e => by
    unfold rds at e
    cases e1 : rd s r with
    | none => rw [e1] at e; cases e
    | some d =>
      cases e2 : rds s rs with
      | none => rw [e1, e2] at e; cases e
      | some ds' =>
        rw [e1, e2] at e
        cases e
        exact .cons (R.read h e1) (Rl.reads R t e2)
@[simp] def tNlL : PTLs := fun s Q => Q [] s
@[simp] def tCnL (t : PTL) (u : PTLs) : PTLs := fun s Q => t s fun r s1 => u s1 fun rs s2 => Q (r :: rs) s2
theorem dls_nil : DLs X [] tNlL := ⟨PA.weak pa_nil fun σ H Q ⟨p, O, s, R, q⟩ => q [] O H R .refl .nil, fun s Q Q' w q => w _ _ q⟩
theorem dls_cons {t : PTL} {u : PTLs} (h : DL X e t) (k : DLs X es u) (hs : starEach (e :: es) X.env = (false, eval e X.env) :: starEach es X.env := by rfl) : DLs X (e :: es) (tCnL t u) :=
  ⟨PA.weak (pa_cons h.pe k.pa hs) fun σ H Q ⟨p, O, s, R, q⟩ => ⟨p, O, s, R, h.mono _ _ _ (fun d s1 q1 v1 O1 H1 R1 k1 a1 => ⟨p, O1, s1, R1, k.mono _ _ _ (fun ds s2 q2 vs O2 H2 R2 k2 a2 => q2 (v1 :: vs) O2 H2 R2 (k1.trans k2) (.cons (a1.to k2) a2)) q1⟩) q⟩,
    fun s Q Q' w q => h.mono _ _ _ (fun d s1 q1 => k.mono _ _ _ (fun ds s2 => w (d :: ds) s2) q1) q⟩

/-- what a call's value may be: it stands already; it is a new list, a new tuple -/
def RsD (K : PySem.W.Frag) (H : Hp) (z : PyData) (Q : VK) : Prop := ∃ O : Ow, (∀ q, O q → H q ≠ none) ∧ (∀ w, At K O H w z → Q w H) ∧ (∀ q vs ds, H q = none → z = .list ds → AtL K O H vs ds → Q (.ref q) (upd H q (.lst vs))) ∧ (∀ q vs ds, H q = none → z = .tuple ds → AtL K O H vs ds → Q (.ref q) (upd H q (.tup vs)))
/-- .. for arguments: the same O -/
def CallD (X : Cx) (f : Value) (g : List PyData → Option PyData) : Prop :=
  CallR X f fun xs H Q => ∃ (O : Ow) (ds : List PyData) (z : PyData), AtEL X.K O H xs ds ∧ g ds = some z ∧ (∀ w, At X.K O H w z → Q w H) ∧ (∀ q vs ls, H q = none → z = .list ls → AtL X.K O H vs ls → Q (.ref q) (upd H q (.lst vs))) ∧ (∀ q vs ls, H q = none → z = .tuple ls → AtL X.K O H vs ls → Q (.ref q) (upd H q (.tup vs)))
/-- .. always a new list -/
def CallF (X : Cx) (f : Value) (g : List PyData → Option (List PyData)) : Prop :=
  CallR X f fun xs H Q => ∃ (O : Ow) (ds ls : List PyData), AtEL X.K O H xs ds ∧ g ds = some ls ∧ ∀ q vs, H q = none → AtL X.K O H vs ls → Q (.ref q) (upd H q (.lst vs))
@[simp] def tCl (g : List PyData → Option PyData) (t : PTLs) : PTE := fun s Q => t s fun rs s' => ∃ ds z, rds s' rs = some ds ∧ g ds = some z ∧ Q z s'
@[simp] def tClF (g : List PyData → Option (List PyData)) (t : PTLs) : PTE := fun s Q => t s fun rs s' => ∃ ds z, rds s' rs = some ds ∧ g ds = some z ∧ Q (.list z) s'
theorem mono_cl {g : List PyData → Option PyData} {t : PTLs} (h : DLs X es t) : Mono (tCl g t) := fun s Q Q' w q => h.mono _ _ _ (fun rs s' ⟨ds, z, e1, e2, q⟩ => ⟨ds, z, e1, e2, w _ _ q⟩) q
theorem mono_clF {g : List PyData → Option (List PyData)} {t : PTLs} (h : DLs X es t) : Mono (tClF g t) := fun s Q Q' w q => h.mono _ _ _ (fun rs s' ⟨ds, z, e1, e2, q⟩ => ⟨ds, z, e1, e2, w _ _ q⟩) q
section
variable {x : Str} {p' : Pos} {g : List PyData → Option PyData} {gF : List PyData → Option (List PyData)} {t : PTLs} {id T : String}
theorem cl_read {r : List V → Hp → VK → Prop} (h : DLs X es t) (w : ∀ (p : Pm) (O : Ow) (σ : L2.St) (s' : PSt) H' Q vs ds z, Rl X.K p O σ H' s' → AtEL X.K O H' vs ds → g ds = some z → (∀ v O2 H2, Rl X.K p O2 σ H2 s' → Kp O H' O2 H2 → At X.K O2 H2 v z → Q v H2) → r vs H' Q) :
    ∀ (σ : L2.St) (H : Hp) (Q : VK), lift X.K (tCl g t) σ H Q → tCB r (liftLs X.K t) σ H Q := fun σ H Q ⟨p, O, s, R, q⟩ => ⟨p, O, s, R, h.mono _ _ _ (fun rs s' ⟨ds, z, e1, e2, q⟩ vs O' H' R' k' a =>
      w p O' σ s' H' Q vs ds z R' (R'.reads a e1) e2 fun v O2 H2 R2 k2 a2 => q v O2 H2 R2 (k'.trans k2) a2) q⟩
theorem clF_read {r : List V → Hp → VK → Prop} (h : DLs X es t) (w : ∀ (p : Pm) (O : Ow) (σ : L2.St) (s' : PSt) H' Q vs ds z, Rl X.K p O σ H' s' → AtEL X.K O H' vs ds → gF ds = some z → (∀ a O2 H2, Rl X.K p O2 σ H2 s' → Kp O H' O2 H2 → Lone X.K p O2 σ H2 s' a (.list z) → Q (.ref a) H2) → r vs H' Q) :
    ∀ (σ : L2.St) (H : Hp) (Q : VK), liftF X.K (tClF gF t) σ H Q → tCB r (liftLs X.K t) σ H Q := fun σ H Q ⟨p, O, s, R, q⟩ => ⟨p, O, s, R, h.mono _ _ _ (fun rs s' ⟨ds, z, e1, e2, q⟩ vs O' H' R' k' a =>
      w p O' σ s' H' Q vs ds z R' (R'.reads a e1) e2 fun v O2 H2 R2 k2 a2 => q v O2 H2 R2 (k'.trans k2) a2) q⟩
theorem callD_ok {p : Pm} {O : Ow} {σ : L2.St} {s' : PSt} {H' : Hp} {Q : VK} {vs : List V} {ds : List PyData} {z : PyData} (R : Rl X.K p O σ H' s') (a : AtEL X.K O H' vs ds) (e : g ds = some z) (k : ∀ v O2 H2, Rl X.K p O2 σ H2 s' → Kp O H' O2 H2 → At X.K O2 H2 v z → Q v H2) :
    ∃ (O : Ow) (ds : List PyData) (z : PyData), AtEL X.K O H' vs ds ∧ g ds = some z ∧ (∀ w, At X.K O H' w z → Q w H') ∧ (∀ q vs ls, H' q = none → z = .list ls → AtL X.K O H' vs ls → Q (.ref q) (upd H' q (.lst vs))) ∧ (∀ q vs ls, H' q = none → z = .tuple ls → AtL X.K O H' vs ls → Q (.ref q) (upd H' q (.tup vs))) := by
  refine ⟨O, ds, z, a, e, fun w aw => k w O H' R .refl aw, fun q vs ls hq ez l => ?_, fun q vs ls hq ez l => ?_⟩
  · subst ez
    obtain ⟨f1, f2, f3⟩ := fin_lst R hq l
    exact k _ _ _ f1 f2 f3
  · subst ez
    obtain ⟨f1, f2, f3⟩ := fin_tup R hq l
    exact k _ _ _ f1 f2 f3
theorem de_callB (hc : CallD X (.builtin id) g) (hg : Gl X x) (hm : X.mg x = none) (hv : bootBuiltins x = some (.builtin id)) (ha : DLs X (e :: es) t) (hn : x ≠ "__name__" := by decide) (hdb : (x == ("__debug__" : Str)) = false := by decide)
    (he : starEach (e :: es) X.env = (false, eval e X.env) :: starEach es X.env := by rfl) (hpl : (backTo pos (starEach es X.env)).any (·.1) = false := by rfl) : DE X (.Call (.Name x p') (e :: es) [] pos) (tCl g t) :=
  ⟨PE.weak (pe_callB hc hg hm hv ha.pa hn hdb he hpl) (cl_read ha fun p O σ s' H' Q vs ds z R a e k => callD_ok R a e k), mono_cl ha⟩
theorem de_callTy (hc : CallD X (.type T) g) (hg : Gl X x) (hm : X.mg x = none) (hv : bootBuiltins x = some (.type T)) (ha : DLs X (e :: es) t) (hn : x ≠ "__name__" := by decide) (hdb : (x == ("__debug__" : Str)) = false := by decide)
    (he : starEach (e :: es) X.env = (false, eval e X.env) :: starEach es X.env := by rfl) (hpl : (backTo pos (starEach es X.env)).any (·.1) = false := by rfl) : DE X (.Call (.Name x p') (e :: es) [] pos) (tCl g t) :=
  ⟨PE.weak (pe_callTy hc hg hm hv ha.pa hn hdb he hpl) (cl_read ha fun p O σ s' H' Q vs ds z R a e k => callD_ok R a e k), mono_cl ha⟩
theorem callF_ok {p : Pm} {O : Ow} {σ : L2.St} {s' : PSt} {H' : Hp} {Q : VK} {vs : List V} {ds z : List PyData} (R : Rl X.K p O σ H' s') (a : AtEL X.K O H' vs ds) (e : gF ds = some z) (k : ∀ a O2 H2, Rl X.K p O2 σ H2 s' → Kp O H' O2 H2 → Lone X.K p O2 σ H2 s' a (.list z) → Q (.ref a) H2) :
    ∃ (O : Ow) (ds ls : List PyData), AtEL X.K O H' vs ds ∧ gF ds = some ls ∧ ∀ q vs, H' q = none → AtL X.K O H' vs ls → Q (.ref q) (upd H' q (.lst vs)) := by
  refine ⟨O, ds, z, a, e, fun q vs hq l => ?_⟩
  obtain ⟨f1, f2, f3⟩ := fin_lone R hq l
  exact k _ _ _ f1 f2 f3
theorem df_callB (hc : CallF X (.builtin id) gF) (hg : Gl X x) (hm : X.mg x = none) (hv : bootBuiltins x = some (.builtin id)) (ha : DLs X (e :: es) t) (hn : x ≠ "__name__" := by decide) (hdb : (x == ("__debug__" : Str)) = false := by decide)
    (he : starEach (e :: es) X.env = (false, eval e X.env) :: starEach es X.env := by rfl) (hpl : (backTo pos (starEach es X.env)).any (·.1) = false := by rfl) : DF X (.Call (.Name x p') (e :: es) [] pos) (tClF gF t) :=
  ⟨PE.weak (pe_callB hc hg hm hv ha.pa hn hdb he hpl) (clF_read ha fun p O σ s' H' Q vs ds z R a e k => callF_ok R a e k), mono_clF ha⟩
theorem df_callTy (hc : CallF X (.type T) gF) (hg : Gl X x) (hm : X.mg x = none) (hv : bootBuiltins x = some (.type T)) (ha : DLs X (e :: es) t) (hn : x ≠ "__name__" := by decide) (hdb : (x == ("__debug__" : Str)) = false := by decide)
    (he : starEach (e :: es) X.env = (false, eval e X.env) :: starEach es X.env := by rfl) (hpl : (backTo pos (starEach es X.env)).any (·.1) = false := by rfl) : DF X (.Call (.Name x p') (e :: es) [] pos) (tClF gF t) :=
  ⟨PE.weak (pe_callTy hc hg hm hv ha.pa hn hdb he hpl) (clF_read ha fun p O σ s' H' Q vs ds z R a e k => callF_ok R a e k), mono_clF ha⟩
end

/-! ### the built-ins -/
theorem AtEL.one {vs : List V} (h : AtEL K O H vs [d]) : ∃ v, vs = [v] ∧ AtE K O H v d := by
  cases h with
  | cons h1 h2 => cases h2; exact ⟨_, rfl, h1⟩
theorem AtEL.two {d' : PyData} {vs : List V} (h : AtEL K O H vs [d, d']) : ∃ v w, vs = [v, w] ∧ AtE K O H v d ∧ AtE K O H w d' := by
  cases h with
  | cons h1 h2 => cases h2 with
    | cons h3 h4 => cases h4; exact ⟨_, _, rfl, h1, h3⟩
def lenD : List PyData → Option PyData
  | [.list xs] => some (.int xs.length)
  | [.tuple xs] => some (.int xs.length)
  | [.str z] => if z.length ≤ sizeLine then some (.int z.length) else none
  | [.dict ((.bool false, .none) :: ds)] => some (.int ds.length)
  | _ => none
theorem AtK.len {vs : List (Key × V)} {ds : List (PyData × PyData)} : AtK K O H vs ds → vs.length = ds.length := by
  intro h
  induction vs generalizing ds with
  | nil => cases h; rfl
  | cons v vs ih => cases h with
    | cons h1 h2 => rw [List.length_cons, List.length_cons, ih h2]
theorem call_lenP : CallD X (.builtin "len") lenD := by
  intro pins sh σ H xs us Q I rv h
  obtain ⟨O, ds, z, a, e, k, _, _⟩ := h
  unfold lenD at e
  split at e
  · cases e
    obtain ⟨v, rfl, av⟩ := a.one
    obtain ⟨b, ys, rfl, h1, h2⟩ := av.lst
    exact call_len_seq pins sh σ H _ us Q I rv ⟨b, ys, rfl, .inl (SqL.of h1), by rw [h2.len]; exact k _ (.int _)⟩
  · cases e
    obtain ⟨v, rfl, av⟩ := a.one
    obtain ⟨b, ys, rfl, h1, h2⟩ := av.tup
    exact call_len_seq pins sh σ H _ us Q I rv ⟨b, ys, rfl, .inr h1.sq, by rw [h2.len]; exact k _ (.int _)⟩
  · split at e
    · rename_i hz
      cases e
      obtain ⟨v, rfl, av⟩ := a.one
      cases av.str
      exact call_len_str pins sh σ H _ us Q I rv ⟨_, rfl, hz, k _ (.int _)⟩
    · cases e
  · rename_i ds
    cases e
    obtain ⟨v, rfl, av⟩ := a.one
    obtain ⟨b, rfl, ⟨_, kvs, h1, h2⟩ | ⟨h0, _⟩⟩ := AtE.dic (t := false) av
    · rw [← h2.len] at k
      obtain ⟨u, rfl, ru⟩ := vals1 rv
      cases ru
      exact d_len I h1 fun t s' I' => ⟨.int kvs.length, H, I', ⟨t, rfl⟩, k _ (.int _)⟩
    · cases h0
  · cases e
/-- isinstance(x, T): the type's name told -/
def isaD (f : PyData → Bool) : List PyData → Option PyData
  | [d] => if d.plain then some (.bool (f d)) else none
  | _ => none
end
end PD
end
section
set_option Elab.async false
set_option linter.all false
set_option maxRecDepth 100000
set_option maxHeartbeats 4000000
/-! PDS: sorted(x) of a tuple. -/
namespace PD
open PySem PySem.Spec PyProof.Rows L2
section
variable {prog : Program} {w : World} {A : Around} {E : Value → Shared → Prop} {s : Shared}
abbrev filledH (h : Heap) (vs : List Value) : Heap := (h.push (seqObj "list" #[] 0)).update h.objs.size (Obj.mapSeq (· ++ vs.toArray))
theorem pushed_at (h : Heap) : (h.push (seqObj "list" #[] 0)).get? h.objs.size = some (seqObj "list" #[] 0) := Heap.get?_push_size _ rfl
/-- a tuple's items behind those of a new list -/
theorem extend_tuple {l : Addr} {vs : List Value} (hl : IsTup s.heap l vs.toArray) (hz : vs.length ≤ sizeLine) : wpAny (model prog w) A (Builtin.List.listExtendWith (.ref s.heap.objs.size) (.ref l) (.ref s.heap.objs.size)) (fun r s' => r = .done (.ret (.ref s.heap.objs.size)) ∧ s' = { s with heap := filledH s.heap vs }) (fun _ _ => False) { s with heap := s.heap.push (seqObj "list" #[] 0) } := by
  obtain ⟨o, h1, h2, n, h3⟩ := id hl
  have h4 : (s.heap.push (seqObj "list" #[] 0)).get? l = some o := Heap.get?_push_of_some _ h1
  have h5 := pushed_at s.heap
  have h6 : (#[] ++ vs.toArray : Array Value).size ≤ sizeLine + 1 := by
    rw [Array.size_append, List.size_toArray]
    show 0 + vs.length ≤ _
    omega
  have T : (Value.type "tuple" == Value.type "tuple") = true := rfl
  unfold Builtin.List.listExtendWith
  refine wpAny_bind (wpAny_typeOf (T := "tuple") ⟨o, h4, h2⟩ ?_)
  rw [if_pos (by rw [T, Bool.or_true])]
  refine wpAny_bind (listItems_at h4 h3 (wpAny_bind (listItems_at h5 rfl ?_)))
  rw [if_neg (by simp)]
  exact wpAny_bind (listUpdate_at h5 rfl (wpAny_pure ⟨rfl, rfl⟩) (Nat.zero_le _) h6)
/-- what a tuple's items are, gathered in a new list -/
theorem gather_tuple {l : Addr} {vs : List Value} {Q : List Value → Shared → Prop} (hl : IsTup s.heap l vs.toArray) (hz : vs.length ≤ sizeLine) (h : Q vs { s with heap := filledH s.heap vs }) : wpAny (model prog w) A (collect (.ref l)) Q E s := by
  unfold collect
  refine wpAny_bind (wpAny_runValue (codeAny_builtin entry_proto_collect' ?_))
  show wpAny _ _ (newList [] >>= fun x => again (.builtin "list.__iadd__" ⟨[x, .ref l], []⟩)) _ _ s
  have qk : Code.quiet (.builtin "list.__iadd__" ⟨[.ref s.heap.objs.size, .ref l], []⟩) = true := Code.quiet_builtin _ (by decide +kernel)
  refine wpAny_bind (wpAny_newList (wpAny_pure ⟨qk, codeAny_builtin entry_list_iadd' ?_⟩))
  refine wpAny_mono (extend_tuple hl hz) (fun r s' ⟨e1, e2⟩ => ?_) fun _ _ z => z.elim
  rw [e1, e2]
  show wpAny (model prog w) A (load s.heap.objs.size >>= _) Q E _
  refine wpAny_bind (wpAny_load (get?_update_seq (pushed_at s.heap) _) ?_)
  have e : ((#[] : Array Value) ++ vs.toArray).toList = vs := by simp
  show wpAny _ _ (pure ((#[] : Array Value) ++ vs.toArray).toList) Q E _
  rw [e]
  exact wpAny_pure h
section
variable {β : Type} {vs : List Value} {bs : List β} {enc : β → PyData} {R : Value → β → Prop}
theorem filled_size (h : Heap) (vs : List Value) : (filledH h vs).objs.size = h.objs.size + 1 := by rw [Heap.size_update, size_push']
/-- sorted(x) of a tuple x -/
theorem sorted_tuple {l : Addr} {Q : Value → Shared → Prop} (hl : IsTup s.heap l vs.toArray) (e : PySem.W.EachIs R vs bs) (er : PySem.W.EachIs (fun v b => ∃ as, Reads s.heap v (enc b) as) vs bs) (hal : PySem.W.AllAlike (bs.map enc)) (hk : PySem.W.Sortable (bs.map enc)) (hL : bs.length ≤ sizeLine)
    (hu : ∀ b, b ∈ bs → A.units + 2 + (enc b).depth < cLine)
    (h : ∀ out, out.length = bs.length → PySem.W.EachIs R out (bs.mergeSort (PySem.W.dataLe false enc)) → Q (.ref (s.heap.objs.size + 1)) { s with heap := sortedAll s.heap vs (List.toArray out) }) :
    wpAny (model prog w) A (call (.builtin "sorted") [.ref l]) Q E s := by
  have hv : vs.length ≤ sizeLine := by rw [e.length]; exact hL
  have kept : PySem.W.EachIs (fun v b => ∃ as, Reads (PySem.W.sortingHeap (PySem.W.copyHeap s.heap vs) (s.heap.objs.size + 1) vs) v (enc b) as) vs bs := er.mono fun _ _ ⟨as, r⟩ => ⟨as, PyProof.Rows.Reads.keeps (fun _ _ => PySem.W.sorting_copy_old) r⟩
  have S := PySem.W.SortsAt.data (prog := prog) (w := w) (A := A.in1.in1) (s := { s with heap := PySem.W.sortingHeap (PySem.W.copyHeap s.heap vs) (s.heap.objs.size + 1) vs }) (PySem.W.each_map (R := fun v d => ∃ as, Reads (PySem.W.sortingHeap (PySem.W.copyHeap s.heap vs) (s.heap.objs.size + 1) vs) v d as) enc kept) hal hk (PySem.W.bound_map hu)
  refine Calls.call_function_entry kind_sorted plain_sorted entry_sorted (args_sorted1 _) ?_
  unfold Builtin.«sorted»
  refine wpAny_bind (m := checkCount "sorted" 1 1 _) (wpAny_pure (wpAny_bind (gather_tuple hl hv (wpAny_bind (wpAny_newList ?_ hv)))))
  show wpAny _ _ _ _ _ { s with heap := PySem.W.copyHeap s.heap vs }
  rw [filled_size]
  refine wpAny_bind (wpAny_holding (wpAny_call_entry slot_list_sort ⟨_, PySem.W.copyHeap_at s.heap vs, rfl⟩ entry_list_sort ?body (args_list_sort _)))
  case body =>
    have q := h _ (by rw [PySem.W.sortVals_length false rfl]; exact e.length) (PySem.W.sortVals_data false e kept hal)
    refine wpAny_mono (PySem.W.list_sort_vals (prog := prog) (w := w) (A := A.in1.in1) (E := fun _ _ => False) (s := { s with heap := PySem.W.copyHeap s.heap vs }) (P := fun f s' => f = .done (.ret .none) ∧ Q (.ref (s.heap.objs.size + 1)) s') (PySem.W.copyHeap_at s.heap vs) S hv ⟨rfl, q⟩) (fun f s' hf => ?_) fun _ _ z => z.elim
    obtain ⟨rfl, hq⟩ := hf
    exact ⟨_, rfl, wpAny_pure ⟨_, rfl, hq⟩⟩
end
end
end PD
end
section
set_option Elab.async false
set_option linter.all false
set_option maxRecDepth 100000
set_option maxHeartbeats 4000000
/-! PDU: data read with the model's words. -/
namespace PD
open PySem PySem.Spec PyProof.Rows L2
/-! data without the heads of dicts -/
mutual
def std : PyData → PyData
  | .list ds => .list (stdAll ds)
  | .tuple ds => .tuple (stdAll ds)
  | .dict [] => .dict []
  | .dict (_ :: ds) => .dict (stdKv ds)
  | .none => .none
  | .bool b => .bool b
  | .int i => .int i
  | .str x => .str x
def stdAll : List PyData → List PyData
  | [] => []
  | d :: ds => std d :: stdAll ds
def stdKv : List (PyData × PyData) → List (PyData × PyData)
  | [] => []
  | (k, d) :: ds => (k, std d) :: stdKv ds
end
mutual
def noL : PyData → Bool
  | .list _ => false
  | .tuple ds => noLAll ds
  | .dict [] => true
  | .dict (_ :: ds) => noLKv ds
  | _ => true
def noLAll : List PyData → Bool
  | [] => true
  | d :: ds => noL d && noLAll ds
def noLKv : List (PyData × PyData) → Bool
  | [] => true
  | (_, d) :: ds => noL d && noLKv ds
end
section
variable {X : Cx} {pins : List (Addr × Obj)} {σ : L2.St} {H : Hp} {s : Shared} {O : Ow}
theorem keyD_reads {P : Program} {w : World} {h : Heap} {k : Key} {v : Value} (e : (mixKind P w).is k v = true) : Reads h v (keyD k) [] := by
  rcases keyIs_shape (show keyIs k v = true from e) with ⟨i, t, rfl, rfl⟩ | ⟨x, t, rfl, rfl⟩
  · exact Reads.int i t
  · exact Reads.str x t
theorem kV_reads {h : Heap} : ∀ {ks : List Key} {us : List Value}, Vals (ks.map kV) us → ReadsAll h us (ks.map keyD) []
  | [], _, r => by cases r; exact ReadsAll.nil
  | k :: ks, _, r => by
    cases r with
    | cons r1 r2 =>
      cases k with
      | inl i =>
        obtain ⟨t, rfl⟩ := r1
        exact ReadsAll.cons (as := []) (Reads.int i t) (kV_reads r2)
      | inr x =>
        obtain ⟨t, rfl⟩ := r1
        exact ReadsAll.cons (as := []) (Reads.str x t) (kV_reads r2)
theorem pairs_keys {P : Program} {w : World} {h : Heap} : ∀ {es : List DictEntry} {kvs : List (Key × Value)}, Pairs (mixKind P w) es kvs → ReadsAll h (es.map (·.key)) (kvs.map fun q => keyD q.1) []
  | _, _, .nil => ReadsAll.nil
  | _, _, .cons a b c => ReadsAll.cons (as := []) (keyD_reads a) (pairs_keys c)
theorem pairs_vals {P : Program} {w : World} : ∀ {es : List DictEntry} {kvs : List (Key × Value)}, Pairs (mixKind P w) es kvs → es.map (·.val) = kvs.map (·.2)
  | _, _, .nil => rfl
  | _, _, .cons a b c => by rw [List.map_cons, List.map_cons, b, pairs_vals c]
mutual
theorem At.readsS (I : Inv X pins σ H s) : ∀ (d : PyData) (v : V) (u : Value), At X.K O H v d → RelV v u → ∃ as, Reads s.heap u (std d) as ∧ (noL d = true → ∀ a ∈ as, (a == sysModules) = false)
  | .none, _, _, h, r => by cases h; cases r; exact ⟨[], by rw [std]; exact Reads.none, fun _ a z => nomatch z⟩
  | .bool b, _, _, h, r => by cases h; cases r; exact ⟨[], by rw [std]; exact Reads.bool b, fun _ a z => nomatch z⟩
  | .int i, _, _, h, r => by cases h; obtain ⟨t, rfl⟩ := r; exact ⟨[], by rw [std]; exact Reads.int i t, fun _ a z => nomatch z⟩
  | .str x, _, _, h, r => by cases h; obtain ⟨t, rfl⟩ := r; exact ⟨[], by rw [std]; exact Reads.str x t, fun _ a z => nomatch z⟩
  | .list ds, _, _, h, r => by
    cases h with
    | lst hs ha =>
      cases r
      obtain ⟨its, rv, ⟨o, n, ho, hc, _, hd'⟩, _⟩ := I.list hs.sq
      obtain ⟨as, hr, _⟩ := AtL.readsS I ds _ its ha rv
      exact ⟨_, by rw [std]; exact Reads.list ho hc hd' hr, fun z => by simp [noL] at z⟩
  | .tuple ds, _, _, h, r => by
    cases h with
    | tup hs ha =>
      cases r
      obtain ⟨its, rv, ⟨o, ho, hc, n, hd'⟩, _⟩ := I.tuple hs.sq
      obtain ⟨as, hr, hn⟩ := AtL.readsS I ds _ its ha rv
      exact ⟨_, by rw [std]; exact Reads.tuple ho hc hd' hr, fun z => hn (by simpa [noL] using z)⟩
  | .dict [], _, _, h, _ => by cases h
  | .dict (_ :: ds), _, _, h, r => by
    cases h with
    | dicK n hs ha =>
      cases r
      obtain ⟨_, hn, vs, rv, o, es, ep, ho, ex, hd, _, hp, _⟩ := hs.ok I.hok
      obtain ⟨bs, hr, hb⟩ := AtK.readsS I ds _ vs ha rv
      have e1 : (stdKv ds).map (·.1) = vs.map fun q => keyD q.1 := hr.1
      refine ⟨_, by rw [std]; exact Reads.dict (as := []) ho ex.1 hd (by rw [e1]; exact pairs_keys hp) (by rw [pairs_vals hp]; exact hr.2), fun z a hm => ?_⟩
      rcases List.mem_cons.mp (show a ∈ _ :: bs from by simpa using hm) with q | q
      · rw [q]; exact hn
      · exact hb (by simpa [noL] using z) a q
    | dicT n hs ha =>
      cases r
      obtain ⟨_, hn, xs, rv, o, es, ep, ho, ex, hd, he, _⟩ := hs.ok I.hok
      obtain ⟨bs, hr, hb⟩ := AtT.readsS I ds _ xs ha rv
      refine ⟨_, by rw [std]; exact Reads.dict (as := []) ho ex.1 hd (by rw [he, List.map_map]; exact hr.1) (by rw [he, List.map_map]; exact hr.2), fun z a hm => ?_⟩
      rcases List.mem_cons.mp (show a ∈ _ :: bs from by simpa using hm) with q | q
      · rw [q]; exact hn
      · exact hb (by simpa [noL] using z) a q
theorem AtL.readsS (I : Inv X pins σ H s) : ∀ (ds : List PyData) (vs : List V) (us : List Value), AtL X.K O H vs ds → Vals vs us → ∃ as, ReadsAll s.heap us (stdAll ds) as ∧ (noLAll ds = true → ∀ a ∈ as, (a == sysModules) = false)
  | [], _, _, h, r => by cases h; cases r; exact ⟨[], by rw [stdAll]; exact ReadsAll.nil, fun _ a z => nomatch z⟩
  | d :: ds, _, _, h, r => by
    cases h with
    | cons h1 h2 =>
      cases r with
      | cons r1 r2 =>
        obtain ⟨as, q1, n1⟩ := At.readsS I d _ _ h1 r1
        obtain ⟨bs, q2, n2⟩ := AtL.readsS I ds _ _ h2 r2
        refine ⟨_, by rw [stdAll]; exact ReadsAll.cons q1 q2, fun z a hm => ?_⟩
        have z : noL d = true ∧ noLAll ds = true := by simpa [noLAll] using z
        rcases List.mem_append.mp hm with q | q
        · exact n1 z.1 a q
        · exact n2 z.2 a q
theorem AtK.readsS (I : Inv X pins σ H s) : ∀ (ds : List (PyData × PyData)) (kvs : List (Key × V)) (vs : List (Key × Value)), AtK X.K O H kvs ds → KV kvs vs → ∃ as, ((stdKv ds).map (·.1) = (vs.map fun q => keyD q.1) ∧ ReadsAll s.heap (vs.map (·.2)) ((stdKv ds).map (·.2)) as) ∧ (noLKv ds = true → ∀ a ∈ as, (a == sysModules) = false)
  | [], _, _, h, r => by cases h; cases r; exact ⟨[], ⟨by rw [stdKv]; rfl, by rw [stdKv]; exact ReadsAll.nil⟩, fun _ a z => nomatch z⟩
  | (k, d) :: ds, _, _, h, r => by
    cases h with
    | cons h1 h2 =>
      cases r with
      | cons r1 r2 =>
        obtain ⟨ek, r1⟩ := r1
        obtain ⟨as, q1, n1⟩ := At.readsS I d _ _ h1 r1
        obtain ⟨bs, ⟨q2, q3⟩, n2⟩ := AtK.readsS I ds _ _ h2 r2
        refine ⟨_, ⟨by rw [stdKv, List.map_cons, List.map_cons, q2, ← ek], by rw [stdKv]; exact ReadsAll.cons q1 q3⟩, fun z a hm => ?_⟩
        have z : noL d = true ∧ noLKv ds = true := by simpa [noLKv] using z
        rcases List.mem_append.mp hm with q | q
        · exact n1 z.1 a q
        · exact n2 z.2 a q
theorem AtT.readsS (I : Inv X pins σ H s) : ∀ (ds : List (PyData × PyData)) (kvs : List (List Key × V)) (xs : List (List Key × Addr × Value)), AtT X.K O H kvs ds → Paired (fun (p : List Key × V) (q : List Key × Addr × Value) => p.1 = q.1 ∧ H q.2.1 = some (.tup (p.1.map kV)) ∧ RelV p.2 q.2.2) kvs xs →
    ∃ as, (ReadsAll s.heap (xs.map fun q => Value.ref q.2.1) ((stdKv ds).map (·.1)) [] ∧ ReadsAll s.heap (xs.map fun q => q.2.2) ((stdKv ds).map (·.2)) as) ∧ (noLKv ds = true → ∀ a ∈ as, (a == sysModules) = false)
  | [], _, _, h, r => by cases h; cases r; exact ⟨[], ⟨by rw [stdKv]; exact ReadsAll.nil, by rw [stdKv]; exact ReadsAll.nil⟩, fun _ a z => nomatch z⟩
  | (k, d) :: ds, _, _, h, r => by
    cases h with
    | cons h1 h2 =>
      cases r with
      | cons r1 r2 =>
        obtain ⟨ek, et, r1⟩ := r1
        obtain ⟨as, q1, n1⟩ := At.readsS I d _ _ h1 r1
        obtain ⟨bs, ⟨q2, q3⟩, n2⟩ := AtT.readsS I ds _ _ h2 r2
        obtain ⟨_, its, rv, o, ho, hc, n, hd⟩ := I.hok _ _ et
        refine ⟨_, ⟨?_, by rw [stdKv]; exact ReadsAll.cons q1 q3⟩, fun z a hm => ?_⟩
        · rw [stdKv]
          exact ReadsAll.cons (as := []) (Reads.tuple ho hc hd (by simpa using kV_reads rv)) q2
        · have z : noL d = true ∧ noLKv ds = true := by simpa [noLKv] using z
          rcases List.mem_append.mp hm with q | q
          · exact n1 z.1 a q
          · exact n2 z.2 a q
end
end
end PD
end
section
set_option Elab.async false
set_option linter.all false
set_option maxRecDepth 100000
set_option maxHeartbeats 4000000
/-! PD8: more built-ins over data. -/
namespace PD
open PySem PySem.Spec PyProof.Rows L2

section
variable {K : PySem.W.Frag} {X : Cx} {p : Pm} {O O' : Ow} {σ : L2.St} {H H' : Hp} {s : PSt} {v : V} {d : PyData} {a : Addr} {e ea eb : Expr} {es : List Expr} {pos : Pos}
/-! ### isinstance(x, T) -/
@[simp] def tIsa (f : PyData → Bool) (t : PTL) : PTE := fun s Q => t s fun r s' => ∃ d, rd s' r = some d ∧ Q (.bool (f d)) s'
/-- the rule of a type -/
def IsaR (X : Cx) (T : String) (f : PyData → Bool) : Prop := (∀ d, f (std d) = f d) ∧ ∀ (sh : Shared) (u : Value) (d : PyData) (as : List Addr) (Q : Value → Shared → Prop), Reads sh.heap u d as → (∀ tk, Q (.bool (f d)) { sh with toks := tk }) →
  wpAny (model X.prog X.w) X.A (call (.builtin "isinstance") [u, .type T]) Q X.xe sh
theorem std_kind (f : PyData → Bool) (h1 : ∀ ds es, f (.list ds) = f (.list es)) (h2 : ∀ ds es, f (.tuple ds) = f (.tuple es)) (h3 : ∀ ds es, f (.dict ds) = f (.dict es)) : ∀ d, f (std d) = f d
  | .none => by rw [std]
  | .bool _ => by rw [std]
  | .int _ => by rw [std]
  | .str _ => by rw [std]
  | .list ds => by rw [std]; exact h1 _ _
  | .tuple ds => by rw [std]; exact h2 _ _
  | .dict [] => by rw [std]
  | .dict (_ :: ds) => by rw [std]; exact h3 _ _
theorem isa_int : IsaR X "int" PyData.isInt := ⟨std_kind _ (fun _ _ => rfl) (fun _ _ => rfl) fun _ _ => rfl, fun sh u d as Q r h => PySem.W.isinstance_int_data r fun tk _ => h tk⟩
theorem isa_bool : IsaR X "bool" PyData.isBool := ⟨std_kind _ (fun _ _ => rfl) (fun _ _ => rfl) fun _ _ => rfl, fun sh u d as Q r h => PySem.W.isinstance_bool_data r fun tk _ => h tk⟩
theorem isa_str : IsaR X "str" PyData.isStr := ⟨std_kind _ (fun _ _ => rfl) (fun _ _ => rfl) fun _ _ => rfl, fun sh u d as Q r h => PySem.W.isinstance_str_data r fun tk _ => h tk⟩
theorem isa_tuple : IsaR X "tuple" PyData.isTuple := ⟨std_kind _ (fun _ _ => rfl) (fun _ _ => rfl) fun _ _ => rfl, fun sh u d as Q r h => PySem.W.isinstance_tuple_data r fun tk _ => h tk⟩
theorem isa_list : IsaR X "list" PyData.isList := ⟨std_kind _ (fun _ _ => rfl) (fun _ _ => rfl) fun _ _ => rfl, fun sh u d as Q r h => PySem.W.isinstance_list_data r fun tk _ => h tk⟩
theorem isa_dict : IsaR X "dict" PyData.isDict := ⟨std_kind _ (fun _ _ => rfl) (fun _ _ => rfl) fun _ _ => rfl, fun sh u d as Q r h => PySem.W.isinstance_dict_data r fun tk _ => h tk⟩
def rIsaD (K : PySem.W.Frag) (T : String) (f : PyData → Bool) : List V → Hp → VK → Prop := fun xs H Q => ∃ (O : Ow) (x : V) (d : PyData), xs = [x, .ty T] ∧ AtE K O H x d ∧ Q (.bl (f d)) H
theorem call_isaD {T : String} {f : PyData → Bool} (hr : IsaR X T f) : CallR X (.builtin "isinstance") (rIsaD X.K T f) := by
  intro pins sh σ H xs us Q I rv h
  obtain ⟨O, x, d, rfl, a, q⟩ := h
  cases rv with
  | cons r1 r2 => cases r2 with
    | cons r2 r3 =>
      cases r3
      obtain rfl := (show _ = Value.type T from r2)
      obtain ⟨as, r, _⟩ := At.readsS I d x _ a.at0 r1
      exact hr.2 sh _ (std d) as _ r fun tk => ⟨.bl _, H, I.tok tk, rfl, by rw [hr.1]; exact q⟩
theorem de_isa {T : String} {x : Str} {p1 p2 : Pos} {f : PyData → Bool} {t : PTL} {y : Str} (hr : IsaR X T f) (h : DL X e t) (hg : Gl X x) (hm : X.mg x = none) (hv : bootBuiltins x = some (.builtin "isinstance")) (hgT : Gl X y) (hmT : X.mg y = none) (hvT : bootBuiltins y = some (.type T))
    (hn : x ≠ "__name__" := by decide) (hdb : (x == ("__debug__" : Str)) = false := by decide) (hn2 : y ≠ "__name__" := by decide) (hdb2 : (y == ("__debug__" : Str)) = false := by decide) (he : starEach [e, .Name y p2] X.env = (false, eval e X.env) :: starEach [.Name y p2] X.env := by rfl) : DE X (.Call (.Name x p1) [e, .Name y p2] [] pos) (tIsa f t) := by
  refine ⟨PE.weak (pe_callB (call_isaD hr) hg hm hv (pa_cons h.pe (pa_cons (pe_bltn hgT hmT hvT (v := .ty T) rfl hn2 hdb2) pa_nil) he) hn hdb he) fun σ H Q ⟨p, O, s, R, q⟩ => ⟨p, O, s, R, h.mono _ _ _ (fun r s' ⟨d, e1, q⟩ v O' H' R' k' a => ?_) q⟩, fun s Q Q' w q => h.mono _ _ _ (fun r s' ⟨d, e1, q⟩ => ⟨d, e1, w _ _ q⟩) q⟩
  exact ⟨O', v, d, rfl, R'.read a e1, q _ O' H' R' k' (.bl _)⟩

/-! ### all, any -/
def boolsOf : List PyData → Option (List Bool)
  | [] => some []
  | .bool b :: r => (boolsOf r).map (b :: ·)
  | _ :: _ => none
theorem AtL.bools : ∀ {ds : List PyData} {vs : List V} {bs : List Bool}, AtL K O H vs ds → boolsOf ds = some bs → vs = bs.map V.bl
  | [], _, _, h, e => by cases h; cases e; rfl
  | d :: ds, _, bs, h, e => by
    cases h with
    | cons h1 h2 =>
      cases d with
      | bool b =>
        cases h1
        unfold boolsOf at e
        cases e2 : boolsOf ds with
        | none => rw [e2] at e; cases e
        | some bs' => rw [e2] at e; cases e; rw [AtL.bools h2 e2]; rfl
      | _ => cases e
def allD : List PyData → Option PyData
  | [.list ds] => (boolsOf ds).map fun bs => .bool (bs.all id)
  | _ => none
def anyD : List PyData → Option PyData
  | [.list ds] => (boolsOf ds).map fun bs => .bool (bs.any id)
  | _ => none
theorem call_allP (hc : X.calm = true) : CallD X (.builtin "all") allD := by
  intro pins sh σ H xs us Q I rv h
  obtain ⟨O, ds, z, a, e, k, _, _⟩ := h
  unfold allD at e
  split at e
  · obtain ⟨v, rfl, av⟩ := a.one
    obtain ⟨b, ys, rfl, h1, h2⟩ := av.lst
    cases eb : boolsOf _ with
    | none => rw [eb] at e; cases e
    | some bs =>
      rw [eb] at e
      cases e
      cases h2.bools eb
      exact cr_all hc pins sh σ H _ us Q I rv ⟨b, bs, rfl, SqL.of h1, k _ (.bl _)⟩
  · cases e
theorem call_anyP (hc : X.calm = true) : CallD X (.builtin "any") anyD := by
  intro pins sh σ H xs us Q I rv h
  obtain ⟨O, ds, z, a, e, k, _, _⟩ := h
  unfold anyD at e
  split at e
  · obtain ⟨v, rfl, av⟩ := a.one
    obtain ⟨b, ys, rfl, h1, h2⟩ := av.lst
    cases eb : boolsOf _ with
    | none => rw [eb] at e; cases e
    | some bs =>
      rw [eb] at e
      cases e
      cases h2.bools eb
      exact cr_any hc pins sh σ H _ us Q I rv ⟨b, bs, rfl, SqL.of h1, k _ (.bl _)⟩
  · cases e
/-! ### sum -/
def intsOf : List PyData → Option (List Int)
  | [] => some []
  | .int b :: r => (intsOf r).map (b :: ·)
  | _ :: _ => none
theorem AtL.ints : ∀ {ds : List PyData} {vs : List V} {bs : List Int}, AtL K O H vs ds → intsOf ds = some bs → vs = bs.map V.int
  | [], _, _, h, e => by cases h; cases e; rfl
  | d :: ds, _, bs, h, e => by
    cases h with
    | cons h1 h2 =>
      cases d with
      | int b =>
        cases h1
        unfold intsOf at e
        cases e2 : intsOf ds with
        | none => rw [e2] at e; cases e
        | some bs' => rw [e2] at e; cases e; rw [AtL.ints h2 e2]; rfl
      | _ => cases e
def sumD : List PyData → Option PyData
  | [.list ds] => (intsOf ds).map fun bs => .int bs.sum
  | [.tuple ds] => (intsOf ds).map fun bs => .int bs.sum
  | _ => none
theorem call_sumP (hc : X.calm = true) : CallD X (.builtin "sum") sumD := by
  intro pins sh σ H xs us Q I rv h
  obtain ⟨O, ds, z, a, e, k, _, _⟩ := h
  unfold sumD at e
  split at e
  · obtain ⟨v, rfl, av⟩ := a.one
    obtain ⟨b, ys, rfl, h1, h2⟩ := av.lst
    cases eb : intsOf _ with
    | none => rw [eb] at e; cases e
    | some bs =>
      rw [eb] at e
      cases e
      cases h2.ints eb
      exact cr_sum hc pins sh σ H _ us Q I rv ⟨b, bs, rfl, SqL.of h1, k _ (.int _)⟩
  · obtain ⟨v, rfl, av⟩ := a.one
    obtain ⟨b, ys, rfl, h1, h2⟩ := av.tup
    cases eb : intsOf _ with
    | none => rw [eb] at e; cases e
    | some bs =>
      rw [eb] at e
      cases e
      cases h2.ints eb
      obtain ⟨u, rfl, ru⟩ := rv.one
      cases ru
      obtain ⟨its, r, hl, hz⟩ := I.tuple h1.sq
      have hi := r.ints
      have nn : numsOf its.toArray.toList = bs := hi.numsOf
      obtain ⟨xs, hx⟩ := hi.allInts.items
      rw [hx] at hl nn
      rw [nums_intItems] at nn
      refine PySem.W.ktm_sumG (I.ok.hd hc) hl fun h' tk t' hk => ?_
      rw [preSum_eq, List.take_of_length_le (by simp), nn]
      exact ⟨.int _, H, I.kept hk, ⟨_, rfl⟩, k _ (.int _)⟩
  · cases e
/-! ### abs, int, bool -/
def absD : List PyData → Option PyData
  | [.int i] => some (.int (if i < 0 then -i else i))
  | _ => none
theorem call_absP : CallD X (.builtin "abs") absD := by
  intro pins sh σ H xs us Q I rv h
  obtain ⟨O, ds, z, a, e, k, _, _⟩ := h
  unfold absD at e
  split at e
  · cases e
    obtain ⟨v, rfl, av⟩ := a.one
    cases av.int
    exact call_abs pins sh σ H _ us Q I rv ⟨_, rfl, k _ (.int _)⟩
  · cases e
def intD : List PyData → Option PyData
  | [.int i] => some (.int i)
  | [.bool b] => some (.int (if b then 1 else 0))
  | _ => none
theorem call_intP : CallD X (.type "int") intD := by
  intro pins sh σ H xs us Q I rv h
  obtain ⟨O, ds, z, a, e, k, _, _⟩ := h
  unfold intD at e
  split at e
  · cases e
    obtain ⟨v, rfl, av⟩ := a.one
    cases av.int
    exact call_int1 pins sh σ H _ us Q I rv (.inl ⟨_, rfl, k _ (.int _)⟩)
  · cases e
    obtain ⟨v, rfl, av⟩ := a.one
    cases av.bl
    exact call_int1 pins sh σ H _ us Q I rv (.inr ⟨_, rfl, k _ (.int _)⟩)
  · cases e
/-! ### list(x), tuple(x) -/
def listD : List PyData → Option (List PyData)
  | [.list ds] => some ds
  | [.tuple ds] => some ds
  | _ => none
theorem call_listP : CallF X (.type "list") listD := by
  intro pins sh σ H xs us Q I rv h
  obtain ⟨O, ds, z, a, e, k⟩ := h
  unfold listD at e
  split at e
  · cases e
    obtain ⟨v, rfl, av⟩ := a.one
    obtain ⟨b, ys, rfl, h1, h2⟩ := av.lst
    exact call_list_of pins sh σ H _ us Q I rv ⟨b, ys, rfl, .inl (SqL.of h1), fun l hl => k l ys hl h2⟩
  · cases e
    obtain ⟨v, rfl, av⟩ := a.one
    obtain ⟨b, ys, rfl, h1, h2⟩ := av.tup
    exact call_list_of pins sh σ H _ us Q I rv ⟨b, ys, rfl, .inr h1.sq, fun l hl => k l ys hl h2⟩
  · cases e
def tupleD : List PyData → Option PyData
  | [.list ds] => some (.tuple ds)
  | [.tuple ds] => some (.tuple ds)
  | _ => none
theorem call_tupleP : CallD X (.type "tuple") tupleD := by
  intro pins sh σ H xs us Q I rv h
  obtain ⟨O, ds, z, a, e, k, _, kt⟩ := h
  unfold tupleD at e
  split at e
  · cases e
    obtain ⟨v, rfl, av⟩ := a.one
    obtain ⟨b, ys, rfl, h1, h2⟩ := av.lst
    exact call_tuple_of pins sh σ H _ us Q I rv ⟨b, ys, rfl, .inl ⟨SqL.of h1, fun l hl => kt l ys _ hl rfl h2⟩⟩
  · cases e
    obtain ⟨v, rfl, av⟩ := a.one
    obtain ⟨b, ys, rfl, h1, h2⟩ := av.tup
    exact call_tuple_of pins sh σ H _ us Q I rv ⟨b, ys, rfl, .inr ⟨h1.sq, k _ (.tup h1 h2)⟩⟩
  · cases e

/-! ### min, max of alike items -/
def okMin : List PyData → Bool
  | [] => false
  | ds => PyData.plainAll ds && ds.all (fun x => ds.all fun y => PySem.W.alike x y) && ds.all (fun x => !(isNone x)) && decide (PyData.depthAll ds ≤ 60)
theorem okMin_of {x : PyData} {xs : List PyData} (h : okMin (x :: xs) = true) : PyData.plainAll (x :: xs) = true ∧ PySem.W.AlikeAll (x :: xs) ∧ PyData.depthAll (x :: xs) ≤ 60 := by
  unfold okMin at h
  simp only [Bool.and_eq_true, decide_eq_true_eq] at h
  obtain ⟨⟨⟨h1, h2⟩, h3⟩, h4⟩ := h
  refine ⟨h1, ⟨fun a ha b hb => ?_, fun a ha e => ?_⟩, h4⟩
  · exact List.all_eq_true.mp (List.all_eq_true.mp h2 a ha) b hb
  · have := List.all_eq_true.mp h3 a ha
    rw [e] at this
    exact Bool.false_ne_true this
def minOfD : List PyData → Option PyData
  | [.list (x :: xs)] => if okMin (x :: xs) then some (PySem.W.minD x xs) else none
  | [.tuple (x :: xs)] => if okMin (x :: xs) then some (PySem.W.minD x xs) else none
  | _ => none
def maxOfD : List PyData → Option PyData
  | [.list (x :: xs)] => if okMin (x :: xs) then some (PySem.W.maxD x xs) else none
  | [.tuple (x :: xs)] => if okMin (x :: xs) then some (PySem.W.maxD x xs) else none
  | _ => none
theorem plain_mem : ∀ {ds : List PyData} {d : PyData}, PyData.plainAll ds = true → d ∈ ds → d.plain = true
  | [], _, _, h => by cases h
  | x :: xs, d, h, hd => by
    have h' : x.plain = true ∧ PyData.plainAll xs = true := by simpa [PyData.plainAll] using h
    rcases List.mem_cons.mp hd with rfl | hd
    · exact h'.1
    · exact plain_mem h'.2 hd
/-- the item that a place of the values holds -/
theorem best_at {pins : List (Addr × Obj)} {sh : Shared} {ys : List V} {its : List Value} {ds : List PyData} {i : Nat} {w : Value} {z : PyData} {bs : List Addr} {h' : Heap} (I : Inv X pins σ H sh) (rv : Vals ys its) (h2 : AtL X.K O H ys ds) (pl : PyData.plainAll ds = true)
    (hi : its.toArray[i]? = some w) (r : Reads h' w z bs) (k : ∀ b o, sh.heap.get? b = some o → h'.get? b = some o) : ∃ y, RelV y w ∧ At X.K O H y z := by
  have hi : its[i]? = some w := by simpa using hi
  cases ey : ys[i]? with
  | none => rw [rv.none_of ey] at hi; cases hi
  | some y =>
    obtain ⟨w', e1, e2⟩ := rv.get ey
    rw [hi] at e1; cases e1
    obtain ⟨d, ed, ad⟩ := h2.get ey
    have hp := plain_mem pl (List.mem_of_getElem? ed)
    obtain ⟨as, rd'⟩ := At.rds I ad hp e2
    have := SeqAt.plain_unique d z w _ _ hp (PyProof.Rows.Reads.keeps k rd') r
    subst this
    exact ⟨y, e2, ad⟩
theorem call_minP (hc : X.calm = true) (hu : X.A.units + 64 < cLine) : CallD X (.builtin "min") minOfD := by
  intro pins sh σ H xs us Q I rv h
  obtain ⟨O, ds, z, a, e, k, _, _⟩ := h
  have go : ∀ {h' : Heap} {tk : Nat} {y : V} {w : Value}, (∀ b o, sh.heap.get? b = some o → h'.get? b = some o) → RelV y w → At X.K O H y z → EP X pins σ Q w { sh with heap := h', toks := tk } := fun {h' tk y w} hk r1 r2 => ⟨y, H, I.kept hk, r1, k y r2⟩
  unfold minOfD at e
  split at e
  · split at e
    · rename_i ok
      cases e
      obtain ⟨p1, p2, p3⟩ := okMin_of ok
      obtain ⟨v, rfl, av⟩ := a.one
      obtain ⟨b, ys, rfl, h1, h2⟩ := av.lst
      obtain ⟨u, rfl, ru⟩ := rv.one
      cases ru
      obtain ⟨its, r, hl, hz⟩ := I.list (SqL.of h1)
      obtain ⟨as, rs⟩ := AtL.reads I _ _ _ p1 h2 r
      refine PySem.W.min_list_data (I.ok.hd hc) hl.isList (by simpa using rs) p2 (min61 hu p3) fun i w h' tk bs hi r' hk => ?_
      obtain ⟨y, r1, r2⟩ := best_at I r h2 p1 hi r' hk
      exact go hk r1 r2
    · cases e
  · split at e
    · rename_i ok
      cases e
      obtain ⟨p1, p2, p3⟩ := okMin_of ok
      obtain ⟨v, rfl, av⟩ := a.one
      obtain ⟨b, ys, rfl, h1, h2⟩ := av.tup
      obtain ⟨u, rfl, ru⟩ := rv.one
      cases ru
      obtain ⟨its, r, hl, hz⟩ := I.tuple h1.sq
      obtain ⟨as, rs⟩ := AtL.reads I _ _ _ p1 h2 r
      refine PySem.W.min_tuple_data (I.ok.hd hc) hl (by simpa using rs) p2 (min61 hu p3) fun i w h' tk bs hi r' hk => ?_
      obtain ⟨y, r1, r2⟩ := best_at I r h2 p1 hi r' hk
      exact go hk r1 r2
    · cases e
  · cases e
theorem call_maxP (hc : X.calm = true) (hu : X.A.units + 64 < cLine) : CallD X (.builtin "max") maxOfD := by
  intro pins sh σ H xs us Q I rv h
  obtain ⟨O, ds, z, a, e, k, _, _⟩ := h
  have go : ∀ {h' : Heap} {tk : Nat} {y : V} {w : Value}, (∀ b o, sh.heap.get? b = some o → h'.get? b = some o) → RelV y w → At X.K O H y z → EP X pins σ Q w { sh with heap := h', toks := tk } := fun {h' tk y w} hk r1 r2 => ⟨y, H, I.kept hk, r1, k y r2⟩
  unfold maxOfD at e
  split at e
  · split at e
    · rename_i ok
      cases e
      obtain ⟨p1, p2, p3⟩ := okMin_of ok
      obtain ⟨v, rfl, av⟩ := a.one
      obtain ⟨b, ys, rfl, h1, h2⟩ := av.lst
      obtain ⟨u, rfl, ru⟩ := rv.one
      cases ru
      obtain ⟨its, r, hl, hz⟩ := I.list (SqL.of h1)
      obtain ⟨as, rs⟩ := AtL.reads I _ _ _ p1 h2 r
      refine PySem.W.max_list_data (I.ok.hd hc) hl.isList (by simpa using rs) p2 (min61 hu p3) fun i w h' tk bs hi r' hk => ?_
      obtain ⟨y, r1, r2⟩ := best_at I r h2 p1 hi r' hk
      exact go hk r1 r2
    · cases e
  · split at e
    · rename_i ok
      cases e
      obtain ⟨p1, p2, p3⟩ := okMin_of ok
      obtain ⟨v, rfl, av⟩ := a.one
      obtain ⟨b, ys, rfl, h1, h2⟩ := av.tup
      obtain ⟨u, rfl, ru⟩ := rv.one
      cases ru
      obtain ⟨its, r, hl, hz⟩ := I.tuple h1.sq
      obtain ⟨as, rs⟩ := AtL.reads I _ _ _ p1 h2 r
      refine PySem.W.max_tuple_data (I.ok.hd hc) hl (by simpa using rs) p2 (min61 hu p3) fun i w h' tk bs hi r' hk => ?_
      obtain ⟨y, r1, r2⟩ := best_at I r h2 p1 hi r' hk
      exact go hk r1 r2
    · cases e
  · cases e

/-! ### sorted -/
def nonTup : PyData → Bool
  | .none => false
  | .tuple _ => false
  | _ => true
def someTup : PyData → Bool
  | .tuple (_ :: _) => true
  | _ => false
def okSort (ds : List PyData) : Bool := PyData.plainAll ds && ds.all (fun x => ds.all fun y => PySem.W.alike x y) && (ds.all someTup || ds.all nonTup) && ds.all (fun d => decide (d.depth ≤ 60))
def sortD (ds : List PyData) : List PyData := ds.mergeSort (PySem.W.dataLe false id)
def sortedD : List PyData → Option (List PyData)
  | [.list ds] => if okSort ds then some (sortD ds) else none
  | [.tuple ds] => if okSort ds then some (sortD ds) else none
  | _ => none
theorem okSort_of {ds : List PyData} (h : okSort ds = true) : PyData.plainAll ds = true ∧ PySem.W.AllAlike ds ∧ PySem.W.Sortable ds ∧ ∀ d ∈ ds, d.depth ≤ 60 := by
  unfold okSort at h
  simp only [Bool.and_eq_true, Bool.or_eq_true] at h
  obtain ⟨⟨⟨h1, h2⟩, h3⟩, h4⟩ := h
  refine ⟨h1, fun a ha b hb => List.all_eq_true.mp (List.all_eq_true.mp h2 a ha) b hb, h3.imp (fun h d hd => ?_) (fun h d hd => ?_), fun d hd => of_decide_eq_true (List.all_eq_true.mp h4 d hd)⟩
  · have := List.all_eq_true.mp h d hd
    unfold someTup at this
    split at this
    · exact ⟨_, _, rfl⟩
    · cases this
  · have := List.all_eq_true.mp h d hd
    refine ⟨fun e => ?_, fun xs e => ?_⟩ <;> (rw [e] at this; exact Bool.false_ne_true this)
theorem vals_zip : ∀ {ys : List V} {its : List Value} {ds : List PyData}, Vals ys its → ys.length = ds.length → PySem.W.EachIs (fun u (b : V × PyData) => RelV b.1 u) its (ys.zip ds)
  | _, _, [], .nil, _ => .nil
  | _, _, d :: ds, .cons r t, e => .cons r (vals_zip t (by simpa using e))
  | _, _, d :: ds, .nil, e => by cases e
  | _, _, [], .cons _ _, e => by cases e
theorem each_vals : ∀ {its : List Value} {bs : List (V × PyData)}, PySem.W.EachIs (fun u (b : V × PyData) => RelV b.1 u) its bs → Vals (bs.map (·.1)) its
  | _, _, .nil => .nil
  | _, _, .cons r t => .cons r (each_vals t)
theorem each_and {α β : Type} {R S : α → β → Prop} : ∀ {as : List α} {bs : List β}, PySem.W.EachIs R as bs → (∀ a b, b ∈ bs → R a b → S a b) → PySem.W.EachIs S as bs
  | _, _, .nil, _ => .nil
  | _, _, .cons r t, h => .cons (h _ _ List.mem_cons_self r) (each_and t fun a b hb => h a b (List.mem_cons_of_mem _ hb))
theorem AtL.zipped : ∀ {ys : List V} {ds : List PyData}, AtL K O H ys ds → ∀ b ∈ ys.zip ds, At K O H b.1 b.2
  | _, _, .nil, _, h => by cases h
  | _, _, .cons h1 h2, b, h => by
    rcases List.mem_cons.mp h with rfl | h
    · exact h1
    · exact AtL.zipped h2 b h
theorem AtL.of_map : ∀ {bs : List (V × PyData)}, (∀ b ∈ bs, At K O H b.1 b.2) → AtL K O H (bs.map (·.1)) (bs.map (·.2))
  | [], _ => .nil
  | b :: bs, h => .cons (h b List.mem_cons_self) (AtL.of_map fun c hc => h c (List.mem_cons_of_mem _ hc))
theorem zip_snd {α β : Type} : ∀ {as : List α} {bs : List β}, as.length = bs.length → (as.zip bs).map (·.2) = bs
  | [], [], _ => rfl
  | a :: as, b :: bs, h => by rw [List.zip_cons_cons, List.map_cons, zip_snd (by simpa using h)]
theorem call_sortedP (hu : X.A.units + 64 < cLine) : CallF X (.builtin "sorted") sortedD := by
  intro pins sh σ H xs us Q I rv h
  obtain ⟨O, ds, z, a, e, k⟩ := h
  unfold sortedD at e
  split at e
  · split at e
    · rename_i ds ok
      cases e
      obtain ⟨p1, p2, p3, p4⟩ := okSort_of ok
      obtain ⟨v, rfl, av⟩ := a.one
      obtain ⟨b, ys, rfl, h1, h2⟩ := av.lst
      obtain ⟨u, rfl, ru⟩ := rv.one
      cases ru
      obtain ⟨its, r, hl, hz⟩ := I.list (SqL.of h1)
      have hlen : ys.length = ds.length := h2.len
      have e1 := vals_zip r hlen
      have hmap : (ys.zip ds).map (·.2) = ds := zip_snd hlen
      refine PySem.W.sorted_data (enc := fun b : V × PyData => b.2) (bs := ys.zip ds) hl.isList e1 (each_and e1 fun u b hb rb => ?_) (by rw [hmap]; exact p2) (by rw [hmap]; exact p3) (by rw [List.length_zip]; omega) (fun b hb => ?_) fun out hol eo => ?_
      · exact At.rds I (h2.zipped b hb) (plain_mem p1 (List.of_mem_zip hb).2) rb
      · have := p4 b.2 (List.of_mem_zip hb).2
        show X.A.units + 2 + b.2.depth < cLine
        omega
      · obtain ⟨ep, he'⟩ := PyProof.Rows.sortedAll_at sh.heap its out.toArray
        have hperm : ((ys.zip ds).mergeSort (PySem.W.dataLe false fun b : V × PyData => b.2)).Perm (ys.zip ds) := List.mergeSort_perm _ _
        have hA : AtL X.K O H (((ys.zip ds).mergeSort (PySem.W.dataLe false fun b : V × PyData => b.2)).map (·.1)) (sortD ds) := by
          have q := AtL.of_map (K := X.K) (O := O) (H := H) (bs := (ys.zip ds).mergeSort (PySem.W.dataLe false fun b : V × PyData => b.2)) fun b hb => h2.zipped b (hperm.mem_iff.mp hb)
          have q2 : ((ys.zip ds).mergeSort (PySem.W.dataLe false fun b : V × PyData => b.2)).map (·.2) = sortD ds := by
            have q3 := PySem.W.sort_maps (r := PySem.W.dataLe false fun b : V × PyData => b.2) (s := PySem.W.dataLe false (id : PyData → PyData)) (fun b : V × PyData => b.2) (l := ys.zip ds) (fun a _ b _ => rfl)
            rw [hmap] at q3
            exact q3
          rw [q2] at q
          exact q
        have hsz : (((ys.zip ds).mergeSort (PySem.W.dataLe false fun b : V × PyData => b.2)).map (·.1)).length ≤ sizeLine := by
          rw [List.length_map, hperm.length_eq, List.length_zip]
          omega
        exact ⟨.ref _, upd H (sh.heap.objs.size + 1) (.lst _), I.laid (t' := sh.toks) (fun _ _ => PyProof.Rows.sortedAll_old) (Nat.le_succ _) ⟨hsz, out, ep, each_vals eo, he'⟩, rfl, k _ _ (I.hok.fresh (Nat.le_succ _)) hA⟩
    · cases e
  · split at e
    · rename_i ds ok
      cases e
      obtain ⟨p1, p2, p3, p4⟩ := okSort_of ok
      obtain ⟨v, rfl, av⟩ := a.one
      obtain ⟨b, ys, rfl, h1, h2⟩ := av.tup
      obtain ⟨u, rfl, ru⟩ := rv.one
      cases ru
      obtain ⟨its, r, hl, hz⟩ := I.tuple h1.sq
      have hlen : ys.length = ds.length := h2.len
      have e1 := vals_zip r hlen
      have hmap : (ys.zip ds).map (·.2) = ds := zip_snd hlen
      refine sorted_tuple (enc := fun b : V × PyData => b.2) (bs := ys.zip ds) hl e1 (each_and e1 fun u b hb rb => ?_) (by rw [hmap]; exact p2) (by rw [hmap]; exact p3) (by rw [List.length_zip]; omega) (fun b hb => ?_) fun out hol eo => ?_
      · exact At.rds I (h2.zipped b hb) (plain_mem p1 (List.of_mem_zip hb).2) rb
      · have := p4 b.2 (List.of_mem_zip hb).2
        show X.A.units + 2 + b.2.depth < cLine
        omega
      · obtain ⟨ep, he'⟩ := PyProof.Rows.sortedAll_at sh.heap its out.toArray
        have hperm : ((ys.zip ds).mergeSort (PySem.W.dataLe false fun b : V × PyData => b.2)).Perm (ys.zip ds) := List.mergeSort_perm _ _
        have hA : AtL X.K O H (((ys.zip ds).mergeSort (PySem.W.dataLe false fun b : V × PyData => b.2)).map (·.1)) (sortD ds) := by
          have q := AtL.of_map (K := X.K) (O := O) (H := H) (bs := (ys.zip ds).mergeSort (PySem.W.dataLe false fun b : V × PyData => b.2)) fun b hb => h2.zipped b (hperm.mem_iff.mp hb)
          have q2 : ((ys.zip ds).mergeSort (PySem.W.dataLe false fun b : V × PyData => b.2)).map (·.2) = sortD ds := by
            have q3 := PySem.W.sort_maps (r := PySem.W.dataLe false fun b : V × PyData => b.2) (s := PySem.W.dataLe false (id : PyData → PyData)) (fun b : V × PyData => b.2) (l := ys.zip ds) (fun a _ b _ => rfl)
            rw [hmap] at q3
            exact q3
          rw [q2] at q
          exact q
        have hsz : (((ys.zip ds).mergeSort (PySem.W.dataLe false fun b : V × PyData => b.2)).map (·.1)).length ≤ sizeLine := by
          rw [List.length_map, hperm.length_eq, List.length_zip]
          omega
        exact ⟨.ref _, upd H (sh.heap.objs.size + 1) (.lst _), I.laid (t' := sh.toks) (fun _ _ => PyProof.Rows.sortedAll_old) (Nat.le_succ _) ⟨hsz, out, ep, each_vals eo, he'⟩, rfl, k _ _ (I.hok.fresh (Nat.le_succ _)) hA⟩
    · cases e
  · cases e
end
end PD
end
section
set_option Elab.async false
set_option linter.all false
set_option maxRecDepth 100000
set_option maxHeartbeats 4000000
/-! PD9: calls of the text's own defs; methods that change what a name alone holds; the hand. -/
namespace PD
open PySem PySem.Spec PyProof.Rows L2

/-- an argument: data, or the hand -/
inductive AV where
  | d (x : PyData) | hand
/-- what a def is worth: arguments, the hand's content, the wish of the value and the hand, the wish of an error's class and the hand -/
abbrev FSpec := List AV → List PyData → (PyData → List PyData → Prop) → (Addr → List PyData → Prop) → Prop
inductive AvL (K : PySem.W.Frag) (O : Ow) (ha : Option Addr) (H : Hp) : List V → List AV → Prop
  | nil : AvL K O ha H [] []
  | d {v : V} {vs : List V} {x : PyData} {rs : List AV} : At K O H v x → AvL K O ha H vs rs → AvL K O ha H (v :: vs) (.d x :: rs)
  | hand {a : Addr} {vs : List V} {rs : List AV} : ha = some a → AvL K O ha H vs rs → AvL K O ha H (.ref a :: vs) (.hand :: rs)
def HandOk (K : PySem.W.Frag) (O : Ow) (ha : Option Addr) (H : Hp) (hd : List PyData) : Prop := ∀ a, ha = some a → O a ∧ ∃ xs, H a = some (.lst xs) ∧ AtL K O H xs hd
def Fram (ha : Option Addr) (H H' : Hp) : Prop := ∀ a o, H a = some o → ha ≠ some a → H' a = some o
/-- a def's promise; fr: its value is new and held by nothing -/
def spD (K : PySem.W.Frag) (fr : Bool) (F : FSpec) : Sp := fun vs H Q E => ∃ (O : Ow) (ha : Option Addr) (avs : List AV) (hd : List PyData), HandOk K O ha H hd ∧ (∀ a, O a → NT (H a)) ∧ AvL K O ha H vs avs ∧
  F avs hd (fun d hd' => ∀ v H', Fram ha H H' → HandOk K O ha H' hd' → (if fr = true then ∃ a, v = .ref a ∧ H a = none ∧ Own K (O.with a) H' a d ∧ HandOk K (O.with a) ha H' hd' else At K O H' v d) → Q v H')
    (fun C hd' => ∀ H', Fram ha H H' → HandOk K O ha H' hd' → E (.ref C) none H')

section
variable {K : PySem.W.Frag} {X : Cx} {p : Pm} {O O' : Ow} {σ : L2.St} {H H' : Hp} {s : PSt} {v : V} {d : PyData} {a : Addr} {e ea eb : Expr} {es : List Expr} {pos : Pos}
theorem AvL.to {ha : Option Addr} (k : Kp O H O' H') : ∀ {vs : List V} {rs : List AV}, AvL K O ha H vs rs → AvL K O' ha H' vs rs
  | _, _, .nil => .nil
  | _, _, .d h t => .d (h.to k) (AvL.to k t)
  | _, _, .hand h t => .hand h (AvL.to k t)
/-- behind a call: what was not the hand stands, the hand may have another content -/
theorem Fram.kp {hd : List PyData} (R : Rl K p O σ H s) (f : Fram p.ha H H') : Kp O H O H' := ⟨fun a o e n => f a o e fun z => n (R.hand a z).1, fun _ n _ => n⟩
theorem Rl.called {hd' : List PyData} (R : Rl K p O σ H s) (f : Fram p.ha H H') (h : HandOk K O p.ha H' hd') : Rl K p O σ H' { s with hd := hd' } := by
  have k : Kp O H O H' := f.kp (hd := hd') R
  have stay : ∀ {b o}, H b = some o → p.ha ≠ some b → H' b = H b := fun {b o} e n => by rw [e]; exact f b o e n
  refine ⟨R.len, fun i S e => ?_, R.inj, h, fun a o e n => f a o (R.frm a o e n) n, fun a z => ?_, R.o0, R.od, R.ob⟩
  · have q := R.sl i S e
    cases S with
    | no => trivial
    | v d => obtain ⟨y, e1, e2⟩ := q; exact ⟨y, e1, e2.to k⟩
    | m d =>
      obtain ⟨b, e1, e2, e3, e4, e5⟩ := q
      refine ⟨b, e1, e2, e3, e4, e5.to k ?_⟩
      cases e6 : H b with
      | none => exact absurd e6 e5.some
      | some o => rw [f b o e6 e4]
    | b d =>
      obtain ⟨b, e1, e2, e3, e4⟩ := q
      refine ⟨b, e1, e2, e3, e4.to k ?_⟩
      cases e6 : H b with
      | none => exact absurd e6 e4.some
      | some o => rw [f b o e6 e3]
    | h => exact q
  · by_cases e : p.ha = some a
    · obtain ⟨_, xs, e2, _⟩ := h a e
      rw [e2]; exact True.intro
    · have n := R.dom a z
      cases e6 : H a with
      | none => exact absurd e6 n.ne
      | some o => rw [f a o e6 e, ← e6]; exact n
/-- Kp to a heap where one new address is owned -/
theorem Kp.withNew {b : Addr} (k : Kp O H O H') (hb : H b = none) : Kp O H (O.with b) H' := ⟨k.st, fun a n h z => by
  rcases z with z | z
  · exact n z
  · rw [z] at h; exact h hb⟩
theorem Rl.calledF {hd' : List PyData} {b : Addr} {d : PyData} (R : Rl K p O σ H s) (f : Fram p.ha H H') (hb : H b = none) (ow : Own K (O.with b) H' b d) (h : HandOk K (O.with b) p.ha H' hd') :
    Rl K p (O.with b) σ H' { s with hd := hd' } ∧ Kp O H (O.with b) H' ∧ Lone K p (O.with b) σ H' { s with hd := hd' } b d := by
  have k0 : Kp O H O H' := f.kp (hd := hd') R
  have k : Kp O H (O.with b) H' := k0.withNew hb
  obtain ⟨n1, n2, n3⟩ := R.fresh hb
  refine ⟨⟨R.len, fun i S e => ?_, R.inj, h, fun a o e n => f a o (R.frm a o e n) n, fun a z => ?_, fun a z => .inl (R.o0 a z), R.od, fun a z n => ?_⟩, k, .inr rfl, n1, n2, ow, n3⟩
  · have q := R.sl i S e
    cases S with
    | no => trivial
    | v d => obtain ⟨y, e1, e2⟩ := q; exact ⟨y, e1, e2.to k⟩
    | m d =>
      obtain ⟨c, e1, e2, e3, e4, e5⟩ := q
      refine ⟨c, e1, .inl e2, e3, e4, e5.to k ?_⟩
      cases e6 : H c with
      | none => exact absurd e6 e5.some
      | some o => rw [f c o e6 e4]
    | b d =>
      obtain ⟨c, e1, e2, e3, e4⟩ := q
      refine ⟨c, e1, e2, e3, e4.to k ?_⟩
      cases e6 : H c with
      | none => exact absurd e6 e4.some
      | some o => rw [f c o e6 e3]
    | h => exact q
  · rcases z with z | z
    · by_cases e : p.ha = some a
      · obtain ⟨_, xs, e2, _⟩ := h a e
        rw [e2]; exact True.intro
      · have n := R.dom a z
        cases e6 : H a with
        | none => exact absurd e6 n.ne
        | some o => rw [f a o e6 e, ← e6]; exact n
    · rw [z]; exact ow.nt
  · rcases z with z | z
    · exact R.ob a z n
    · rw [z] at n; exact absurd n1 n

/-! ### arguments -/
abbrev PTV := PSt → (List AV → PSt → Prop) → Prop
def liftV (K : PySem.W.Frag) (t : PTV) : TA := fun σ H QV => ∃ p O s, Rl K p O σ H s ∧ t s fun avs s' => ∀ vs O' H', Rl K p O' σ H' s' → Kp O H O' H' → AvL K O' p.ha H' vs avs → QV vs H'
structure DV (X : Cx) (es : List Expr) (t : PTV) : Prop where
  pa : PA X es (liftV X.K t)
  mono : ∀ s Q Q', (∀ d s', Q d s' → Q' d s') → t s Q → t s Q'
@[simp] def tNlV : PTV := fun s Q => Q [] s
@[simp] def tCnV (t : PTE) (u : PTV) : PTV := fun s Q => t s fun d s1 => u s1 fun ds s2 => Q (.d d :: ds) s2
@[simp] def tCnH (i : Nat) (u : PTV) : PTV := fun s Q => s.G[i]? = some .h ∧ u s fun ds s2 => Q (.hand :: ds) s2
theorem dv_nil : DV X [] tNlV := ⟨PA.weak pa_nil fun σ H Q ⟨p, O, s, R, q⟩ => q [] O H R .refl .nil, fun s Q Q' w q => w _ _ q⟩
theorem dv_cons {t : PTE} {u : PTV} (h : DE X e t) (k : DV X es u) (hs : starEach (e :: es) X.env = (false, eval e X.env) :: starEach es X.env := by rfl) : DV X (e :: es) (tCnV t u) :=
  ⟨PA.weak (pa_cons h.pe k.pa hs) fun σ H Q ⟨p, O, s, R, q⟩ => ⟨p, O, s, R, h.mono _ _ _ (fun d s1 q1 v1 O1 H1 R1 k1 a1 => ⟨p, O1, s1, R1, k.mono _ _ _ (fun ds s2 q2 vs O2 H2 R2 k2 a2 => q2 (v1 :: vs) O2 H2 R2 (k1.trans k2) (.d (a1.to k2) a2)) q1⟩) q⟩,
    fun s Q Q' w q => h.mono _ _ _ (fun d s1 q1 => k.mono _ _ _ (fun ds s2 => w (.d d :: ds) s2) q1) q⟩
theorem dv_hand {i : Nat} {u : PTV} (h : PE X e (tVar i)) (k : DV X es u) (hs : starEach (e :: es) X.env = (false, eval e X.env) :: starEach es X.env := by rfl) : DV X (e :: es) (tCnH i u) :=
  ⟨PA.weak (pa_cons h k.pa hs) fun σ H Q ⟨p, O, s, R, g, q⟩ => by
    obtain ⟨a, e1, e2⟩ := R.sl i _ g
    exact ⟨.ref a, e2, p, O, s, R, k.mono _ _ _ (fun ds s2 q2 vs O2 H2 R2 k2 a2 => q2 (.ref a :: vs) O2 H2 R2 k2 (.hand e1 a2)) q⟩,
    fun s Q Q' w q => ⟨q.1, k.mono _ _ _ (fun ds s2 => w (.hand :: ds) s2) q.2⟩⟩

/-! ### f(..) -/
@[simp] def tFn (F : FSpec) (t : PTV) : PTE := fun s Q => t s fun avs s' => F avs s'.hd (fun d hd => Q d { s' with hd := hd }) fun _ _ => False
/-- a spec in which a weaker wish is as good -/
def MonoF (F : FSpec) : Prop := ∀ avs hd Q Q' E E', (∀ d h, Q d h → Q' d h) → (∀ c h, E c h → E' c h) → F avs hd Q E → F avs hd Q' E'
theorem mono_fn {F : FSpec} {t : PTV} (hF : MonoF F) (h : DV X es t) : Mono (tFn F t) := fun s Q Q' w q => h.mono _ _ _ (fun avs s' q => hF _ _ _ _ _ _ (fun d hd => w d _) (fun _ _ z => z) q) q
section
variable {CX : CXT} {k : Nat} {f : Addr} {fd : FuncData} {ps : List Str} {F : FSpec} {x : Str} {p' : Pos} {t : PTV}
theorem fn_read {fr : Bool} {avs : List AV} {vs : List V} {QV : VK} (R : Rl K p O σ H s) (a : AvL K O p.ha H vs avs) (q : F avs s.hd (fun d hd => ∀ v H', Fram p.ha H H' → HandOk K O p.ha H' hd → (if fr = true then ∃ a, v = .ref a ∧ H a = none ∧ Own K (O.with a) H' a d ∧ HandOk K (O.with a) p.ha H' hd else At K O H' v d) → QV v H') fun _ _ => False) (hF : MonoF F) :
    spD K fr F vs H QV E0 := ⟨O, p.ha, avs, s.hd, fun a e => R.hand a e, R.dom, a, hF _ _ _ _ _ _ (fun d hd w => w) (fun _ _ z => z.elim) q⟩
theorem de_call (G : FnG X.prog X.w X.K X.mg X.base CX k f fd ps (spD X.K false F)) (hF : MonoF F) (hr : RoomG k X.A) (hg : Gl X x) (hm : X.mg x = some (.ref f)) (hk : PySem.W.keepIn X.K (.ref f) = true) (hb : Binds X.K fd ps []) (hx : Passes CX X E0)
    (ha : DV X (e :: es) t) (hdb : (x == ("__debug__" : Str)) = false := by decide) (he : starEach (e :: es) X.env = (false, eval e X.env) :: starEach es X.env := by rfl) (hpl : (backTo pos (starEach es X.env)).any (·.1) = false := by rfl) :
    DE X (.Call (.Name x p') (e :: es) [] pos) (tFn F t) := by
  refine ⟨PE.weak (pe_callG G hr hg hm hk hb .nil hx ha.pa hdb he hpl) fun σ H Q ⟨p, O, s, R, q⟩ => ⟨p, O, s, R, ha.mono _ _ _ (fun avs s' q vs O' H' R' k' a => ?_) q⟩, mono_fn hF ha⟩
  show spD X.K _ F (vs ++ []) H' Q E0
  rw [List.append_nil]
  refine fn_read (fr := false) R' a (hF _ _ _ _ _ _ (fun d hd q v H2 f h a2 => ?_) (fun _ _ z => z) q) hF
  exact q v O' H2 (R'.called f h) (k'.trans (f.kp (hd := hd) R')) a2
theorem df_call (G : FnG X.prog X.w X.K X.mg X.base CX k f fd ps (spD X.K true F)) (hF : MonoF F) (hr : RoomG k X.A) (hg : Gl X x) (hm : X.mg x = some (.ref f)) (hk : PySem.W.keepIn X.K (.ref f) = true) (hb : Binds X.K fd ps []) (hx : Passes CX X E0)
    (ha : DV X (e :: es) t) (hdb : (x == ("__debug__" : Str)) = false := by decide) (he : starEach (e :: es) X.env = (false, eval e X.env) :: starEach es X.env := by rfl) (hpl : (backTo pos (starEach es X.env)).any (·.1) = false := by rfl) :
    DF X (.Call (.Name x p') (e :: es) [] pos) (tFn F t) := by
  refine ⟨PE.weak (pe_callG G hr hg hm hk hb .nil hx ha.pa hdb he hpl) fun σ H Q ⟨p, O, s, R, q⟩ => ⟨p, O, s, R, ha.mono _ _ _ (fun avs s' q vs O' H' R' k' a => ?_) q⟩, mono_fn hF ha⟩
  show spD X.K _ F (vs ++ []) H' Q E0
  rw [List.append_nil]
  refine fn_read (fr := true) R' a (hF _ _ _ _ _ _ (fun d hd q v H2 f h a2 => ?_) (fun _ _ z => z) q) hF
  obtain ⟨b, rfl, hb, ow, h2⟩ := a2
  obtain ⟨R2, k2, l2⟩ := R'.calledF f hb ow h2
  exact q b _ H2 R2 (k'.trans k2) l2
end

/-! ### what a name alone holds, changed -/
/-- another content at an owned place that slot i holds -/
theorem Rl.put {i : Nat} {b : Addr} {d' : PyData} {o : HO} (R : Rl K p O σ H s) (g : s.G[i]? = some (.m d)) (eb : σ[i]? = some (some (.ref b))) (ow : Own K O (upd H b o) b d') :
    Rl K p O σ (upd H b o) { s with G := s.G.set i (.m d') } ∧ Kp O H O (upd H b o) := by
  obtain ⟨b', e1, e2, e3, e4, e5⟩ := R.sl i _ g
  rw [eb] at e1; cases e1
  have k : Kp O H O (upd H b o) := ⟨fun a u e n => by rw [upd_ne (fun z => n (by rw [z]; exact e2))]; exact e, fun _ n _ => n⟩
  have hi : i < s.G.length := (List.getElem?_eq_some_iff.mp g).1
  have stay : ∀ {c}, c ≠ b → upd H b o c = H c := fun n => upd_ne n
  refine ⟨⟨by rw [List.length_set]; exact R.len, fun j S e => ?_, fun j l d1 d2 c q1 q2 z1 z2 => ?_, fun a e => ?_, fun a u e n => ?_, fun a z => ?_, R.o0, R.od, R.ob⟩, k⟩
  · by_cases hj : i = j
    · subst hj
      have e : (s.G.set i (.m d'))[i]? = some S := e
      rw [List.getElem?_set_self hi] at e; cases e
      exact ⟨b, eb, e2, e3, e4, ow⟩
    · have e : (s.G.set i (.m d'))[j]? = some S := e
      rw [List.getElem?_set_ne hj] at e
      have q := R.sl j S e
      cases S with
      | no => trivial
      | v d => obtain ⟨y, e1, e2⟩ := q; exact ⟨y, e1, e2.to k⟩
      | m d0 =>
        obtain ⟨c, f1, f2, f3, f4, f5⟩ := q
        exact ⟨c, f1, f2, f3, f4, f5.to k (stay fun z => hj (R.inj i j d d0 b g e eb (by rw [f1, z])))⟩
      | b d0 =>
        obtain ⟨c, f1, f2, f3, f4⟩ := q
        exact ⟨c, f1, f2, f3, f4.to k (stay fun z => f2 (by rw [z]; exact e3))⟩
      | h => exact q
  · have get : ∀ (j : Nat) (d1 : PyData), (s.G.set i (.m d'))[j]? = some (.m d1) → ∃ d2, s.G[j]? = some (.m d2) := fun j d1 q => by
      by_cases hj : i = j
      · subst hj; exact ⟨d, g⟩
      · rw [List.getElem?_set_ne hj] at q; exact ⟨d1, q⟩
    obtain ⟨x1, y1⟩ := get j d1 q1
    obtain ⟨x2, y2⟩ := get l d2 q2
    exact R.inj j l x1 x2 c y1 y2 z1 z2
  · obtain ⟨f1, xs, f2, f3⟩ := R.hand a e
    exact ⟨f1, xs, by rw [stay fun z => e4 (by rw [← z]; exact e)]; exact f2, f3.to k⟩
  · have q := R.frm a u e n
    rw [stay fun z => by rw [z, e3] at e; cases e]; exact q
  · by_cases z' : a = b
    · rw [z']; exact ow.nt
    · rw [stay z']; exact R.dom a z
/-- the slot's owned list -/
theorem Rl.mlist {i : Nat} {ds : List PyData} (R : Rl K p O σ H s) (g : s.G[i]? = some (.m (.list ds))) : ∃ b xs, σ[i]? = some (some (.ref b)) ∧ H b = some (.lst xs) ∧ AtL K O H xs ds ∧ O b := by
  obtain ⟨b, e1, e2, _, _, e5⟩ := R.sl i _ g
  cases e5 with
  | lst h1 h2 => exact ⟨b, _, e1, h1, h2, e2⟩
@[simp] def tApp (i : Nat) (t : PTE) : PTE := fun s Q => (∃ ds, s.G[i]? = some (.m (.list ds))) ∧ t s fun d s1 => ∃ ds, s1.G[i]? = some (.m (.list ds)) ∧ ds.length < sizeLine ∧ Q .none { s1 with G := s1.G.set i (.m (.list (ds ++ [d]))) }
variable {o : Expr} {apos cpos : Pos}
theorem de_append {i : Nat} {t : PTE} (h : PE X o (tVar i)) (ha : DE X e t) (hbase : attributeBase o "append" X.env (eval o X.env) = eval o X.env := by rfl) (hfew : ((backTo cpos (starEach [e] X.env)).all (fun x => !x.1) && (backToKw cpos (keywordEach [] X.env)).all (fun x => x.1.isSome) && decide ([e].length + ([] : List Keyword).length + (if ([] : List Keyword).isEmpty then 0 else 1) < 30)) = true := by rfl) (hline : (apos.endLine == cpos.line) = true := by rfl)
    (hs : starEach [e] X.env = (false, eval e X.env) :: starEach [] X.env := by rfl) (hpl : (backTo cpos (starEach [] X.env)).any (·.1) = false := by rfl) : DE X (.Call (.Attribute o "append" apos) [e] [] cpos) (tApp i t) := by
  refine ⟨PE.weak (pe_bm PySem.F.plainAttrs_list PySem.F.slot_list_append PySem.F.type_list_append mt_append h (pa_cons ha.pe pa_nil hs) hbase hfew hline hs hpl) fun σ H Q ⟨p, O, s, R, ⟨ds0, g0⟩, q⟩ => ?_, fun s Q Q' w ⟨g, q⟩ => ⟨g, ha.mono _ _ _ (fun d s1 ⟨ds, g1, z, q⟩ => ⟨ds, g1, z, w _ _ q⟩) q⟩⟩
  obtain ⟨b, xs, e1, e2, e3, e4⟩ := R.mlist g0
  refine ⟨.ref b, e1, .inl ⟨rfl, _, SqL.of e2⟩, p, O, s, R, ha.mono _ _ _ (fun d s1 ⟨ds, g1, z, q⟩ v O' H' R' k' a => ?_) q⟩
  obtain ⟨b', xs', f1, f2, f3, f4⟩ := R'.mlist g1
  rw [e1] at f1; cases f1
  have k2 : Kp O' H' O' (upd H' b (.lst (xs' ++ [v]))) := ⟨fun c u e n => by rw [upd_ne (fun z => n (by rw [z]; exact f4))]; exact e, fun _ n _ => n⟩
  obtain ⟨R2, k3⟩ := R'.put (d' := .list (ds ++ [d])) (o := .lst (xs' ++ [v])) g1 e1 (.lst upd_same ((f3.append (.cons a .nil)).to k2))
  exact ⟨b, xs', v, rfl, rfl, f2, by rw [f3.len]; exact z, q .non O' _ R2 (k'.trans k3) .non⟩
@[simp] def tExt (i : Nat) (t : PTE) : PTE := fun s Q => (∃ ds, s.G[i]? = some (.m (.list ds))) ∧ t s fun d s1 => ∃ ds es, s1.G[i]? = some (.m (.list ds)) ∧ d = .list es ∧ ds.length + es.length ≤ sizeLine ∧ Q .none { s1 with G := s1.G.set i (.m (.list (ds ++ es))) }
theorem de_extend {i : Nat} {t : PTE} (h : PE X o (tVar i)) (ha : DE X e t) (hbase : attributeBase o "extend" X.env (eval o X.env) = eval o X.env := by rfl) (hfew : ((backTo cpos (starEach [e] X.env)).all (fun x => !x.1) && (backToKw cpos (keywordEach [] X.env)).all (fun x => x.1.isSome) && decide ([e].length + ([] : List Keyword).length + (if ([] : List Keyword).isEmpty then 0 else 1) < 30)) = true := by rfl) (hline : (apos.endLine == cpos.line) = true := by rfl)
    (hs : starEach [e] X.env = (false, eval e X.env) :: starEach [] X.env := by rfl) (hpl : (backTo cpos (starEach [] X.env)).any (·.1) = false := by rfl) : DE X (.Call (.Attribute o "extend" apos) [e] [] cpos) (tExt i t) := by
  refine ⟨PE.weak (pe_bm PySem.F.plainAttrs_list PySem.F.slot_list_extend PySem.F.type_list_extend mt_extend h (pa_cons ha.pe pa_nil hs) hbase hfew hline hs hpl) fun σ H Q ⟨p, O, s, R, ⟨ds0, g0⟩, q⟩ => ?_, fun s Q Q' w ⟨g, q⟩ => ⟨g, ha.mono _ _ _ (fun d s1 ⟨ds, es, g1, e, z, q⟩ => ⟨ds, es, g1, e, z, w _ _ q⟩) q⟩⟩
  obtain ⟨b, xs, e1, e2, e3, e4⟩ := R.mlist g0
  refine ⟨.ref b, e1, .inl ⟨rfl, _, SqL.of e2⟩, p, O, s, R, ha.mono _ _ _ (fun d s1 ⟨ds, es, g1, ed, z, q⟩ v O' H' R' k' a => ?_) q⟩
  subst ed
  cases a with
  | lst h1 h2 =>
    rename_i c zs
    obtain ⟨b', xs', f1, f2, f3, f4⟩ := R'.mlist g1
    rw [e1] at f1; cases f1
    have k2 : Kp O' H' O' (upd H' b (.lst (xs' ++ zs))) := ⟨fun c u e n => by rw [upd_ne (fun z => n (by rw [z]; exact f4))]; exact e, fun _ n _ => n⟩
    obtain ⟨R2, k3⟩ := R'.put (d' := .list (ds ++ es)) (o := .lst (xs' ++ zs)) g1 e1 (.lst upd_same ((f3.append h2).to k2))
    exact ⟨b, c, xs', zs, rfl, rfl, f2, h1.2, by rw [f3.len, h2.len]; exact z, q .non O' _ R2 (k'.trans k3) .non⟩
@[simp] def tPop (i : Nat) : PTE := fun s Q => ∃ ds d, s.G[i]? = some (.m (.list ds)) ∧ ds[ds.length - 1]? = some d ∧ Q d { s with G := s.G.set i (.m (.list ds.dropLast)) }
theorem AtL.dropLast {xs : List V} {ds : List PyData} (h : AtL K O H xs ds) : AtL K O H xs.dropLast ds.dropLast := by
  rw [List.dropLast_eq_take, List.dropLast_eq_take, h.len]
  exact h.take _
theorem de_pop {i : Nat} (h : PE X o (tVar i)) (hbase : attributeBase o "pop" X.env (eval o X.env) = eval o X.env := by rfl) (hline : (apos.endLine == cpos.line) = true := by rfl) : DE X (.Call (.Attribute o "pop" apos) [] [] cpos) (tPop i) := by
  refine ⟨PE.weak (pe_bm0 PySem.F.plainAttrs_list PySem.F.slot_list_pop PySem.F.type_list_pop mt_pop h hbase hline) fun σ H Q ⟨p, O, s, R, ds, d, g, ed, q⟩ => ?_, fun s Q Q' w ⟨ds, d, g, ed, q⟩ => ⟨ds, d, g, ed, w _ _ q⟩⟩
  obtain ⟨b, xs, e1, e2, e3, e4⟩ := R.mlist g
  obtain ⟨y, y1, y2⟩ := e3.get' ed
  have k2 : Kp O H O (upd H b (.lst xs.dropLast)) := ⟨fun c u e n => by rw [upd_ne (fun z => n (by rw [z]; exact e4))]; exact e, fun _ n _ => n⟩
  obtain ⟨R2, k3⟩ := R.put (d' := .list ds.dropLast) (o := .lst xs.dropLast) g e1 (.lst upd_same (e3.dropLast.to k2))
  exact ⟨.ref b, e1, .inl ⟨rfl, _, SqL.of e2⟩, b, xs, y, rfl, rfl, e2, by rw [e3.len]; exact y1, q y O _ R2 k3 (y2.to k3)⟩
@[simp] def tPopAt (i : Nat) (t : PTE) : PTE := fun s Q => (∃ ds, s.G[i]? = some (.m (.list ds))) ∧ t s fun k s1 => ∃ ds j d, s1.G[i]? = some (.m (.list ds)) ∧ k = .int (j : Nat) ∧ j < 2 ^ 62 ∧ ds[j]? = some d ∧ Q d { s1 with G := s1.G.set i (.m (.list (ds.eraseIdx j))) }
theorem de_popAt {i : Nat} {t : PTE} (h : PE X o (tVar i)) (ha : DE X e t) (hbase : attributeBase o "pop" X.env (eval o X.env) = eval o X.env := by rfl) (hfew : ((backTo cpos (starEach [e] X.env)).all (fun x => !x.1) && (backToKw cpos (keywordEach [] X.env)).all (fun x => x.1.isSome) && decide ([e].length + ([] : List Keyword).length + (if ([] : List Keyword).isEmpty then 0 else 1) < 30)) = true := by rfl) (hline : (apos.endLine == cpos.line) = true := by rfl)
    (hs : starEach [e] X.env = (false, eval e X.env) :: starEach [] X.env := by rfl) (hpl : (backTo cpos (starEach [] X.env)).any (·.1) = false := by rfl) : DE X (.Call (.Attribute o "pop" apos) [e] [] cpos) (tPopAt i t) := by
  refine ⟨PE.weak (pe_bm PySem.F.plainAttrs_list PySem.F.slot_list_pop PySem.F.type_list_pop mt_popAt h (pa_cons ha.pe pa_nil hs) hbase hfew hline hs hpl) fun σ H Q ⟨p, O, s, R, ⟨ds0, g0⟩, q⟩ => ?_, fun s Q Q' w ⟨g, q⟩ => ⟨g, ha.mono _ _ _ (fun k s1 ⟨ds, j, d, g1, e, z, y, q⟩ => ⟨ds, j, d, g1, e, z, y, w _ _ q⟩) q⟩⟩
  obtain ⟨b, xs, e1, e2, e3, e4⟩ := R.mlist g0
  refine ⟨.ref b, e1, .inl ⟨rfl, _, SqL.of e2⟩, p, O, s, R, ha.mono _ _ _ (fun k s1 ⟨ds, j, d, g1, ek, z, y, q⟩ v O' H' R' k' a => ?_) q⟩
  subst ek
  cases a
  obtain ⟨b', xs', f1, f2, f3, f4⟩ := R'.mlist g1
  rw [e1] at f1; cases f1
  obtain ⟨w, w1, w2⟩ := f3.get' y
  have hj : j < xs'.length := (List.getElem?_eq_some_iff.mp w1).1
  have k2 : Kp O' H' O' (upd H' b (.lst (xs'.eraseIdx j))) := ⟨fun c u e n => by rw [upd_ne (fun z => n (by rw [z]; exact f4))]; exact e, fun _ n _ => n⟩
  obtain ⟨R2, k3⟩ := R'.put (d' := .list (ds.eraseIdx j)) (o := .lst (xs'.eraseIdx j)) g1 e1 (.lst upd_same ((f3.eraseIdx j).to k2))
  refine ⟨b, xs', j, j, w, rfl, rfl, f2, by omega, by omega, ?_, w1, q w O' _ R2 (k'.trans k3) (w2.to k3)⟩
  rw [seqIndex_of (by omega) (by omega)]
  simp

/-! ### the hand -/
@[simp] def tHix (i : Nat) (t : PTE) : PTE := fun s Q => s.G[i]? = some .h ∧ t s fun k s1 => ∃ j d, k = .int j ∧ atI s1.hd j = some d ∧ Q d s1
theorem de_hix {i : Nat} {t : PTE} (hu : X.A.units + 64 < cLine) (h : PE X o (tVar i)) (hb : DE X e t) (hs : PlainIx e := by exact fun _ _ => rfl) : DE X (.Subscript o e pos) (tHix i t) := by
  refine ⟨PE.weak (pe_ix ix_list h hb.pe hs) fun σ H Q ⟨p, O, s, R, g, q⟩ => ?_, fun s Q Q' w ⟨g, q⟩ => ⟨g, hb.mono _ _ _ (fun k s1 ⟨j, d, e1, e2, q⟩ => ⟨j, d, e1, e2, w _ _ q⟩) q⟩⟩
  obtain ⟨a, e1, e2⟩ := R.sl i _ g
  refine ⟨.ref a, e2, p, O, s, R, hb.mono _ _ _ (fun k s1 ⟨j, d, ek, ed, q⟩ v O' H' R' k' av => ?_) q⟩
  subst ek
  cases av
  obtain ⟨f1, xs, f2, f3⟩ := R'.hand a e1
  obtain ⟨w, w1, w2⟩ := f3.atI ed
  exact ⟨a, xs, j, w, rfl, rfl, SqL.of f2, w1, q w O' H' R' k' w2⟩
/-- the hand's content changed -/
theorem Rl.handPut {b : Addr} {xs : List V} {ds : List PyData} (R : Rl K p O σ H s) (hb : p.ha = some b) (l : AtL K O H xs ds) : Rl K p O σ (upd H b (.lst xs)) { s with hd := ds } ∧ Kp O H O (upd H b (.lst xs)) := by
  obtain ⟨h1, xs0, h2, h3⟩ := R.hand b hb
  have k : Kp O H O (upd H b (.lst xs)) := ⟨fun a u e n => by rw [upd_ne (fun z => n (by rw [z]; exact h1))]; exact e, fun _ n _ => n⟩
  have f : Fram p.ha H (upd H b (.lst xs)) := fun a o e n => by rw [upd_ne (fun z => n (by rw [z]; exact hb))]; exact e
  exact ⟨R.called f fun a e => by
    rw [hb] at e; cases e
    exact ⟨h1, xs, upd_same, l.to k⟩, k⟩
end
end PD
end
section
set_option Elab.async false
set_option linter.all false
set_option maxRecDepth 100000
set_option maxHeartbeats 4000000
/-! PD10: targets, what is walked, list comprehensions. -/
namespace PD
open PySem PySem.Spec PyProof.Rows L2

section
variable {K : PySem.W.Frag} {X : Cx} {p : Pm} {O O' : Ow} {σ σ' : L2.St} {H H' : Hp} {s s' : PSt} {v : V} {d : PyData} {a : Addr} {e ea eb : Expr} {es : List Expr} {pos : Pos}

/-! ### a state seen by a block within -/
theorem wipe_get {i : Nat} : ∀ {vs : List Nat}, i ∉ vs → (L2.wipe σ vs)[i]? = σ[i]?
  | [], _ => rfl
  | w :: ws, h => by
    have h1 : w ≠ i := fun z => h (by rw [z]; exact List.mem_cons_self)
    have h2 : i ∉ ws := fun z => h (List.mem_cons_of_mem _ z)
    show ((L2.wipe σ ws).set w none)[i]? = σ[i]?
    rw [List.getElem?_set_ne h1]
    exact wipe_get h2
@[simp] def wipeG (G : List Sl) : List Nat → List Sl
  | [] => G
  | v :: vs => (wipeG G vs).set v .no
@[simp] def Sl.inn : Sl → Sl
  | .m d => .b d
  | S => S
@[simp] def blkG (G : List Sl) (vs : List Nat) : List Sl := wipeG (G.map Sl.inn) vs
theorem wipeG_len (G : List Sl) : ∀ vs, (wipeG G vs).length = G.length
  | [] => rfl
  | v :: vs => by unfold wipeG; rw [List.length_set, wipeG_len G vs]
theorem wipeG_get {G : List Sl} {i : Nat} {S : Sl} : ∀ {vs : List Nat}, (wipeG G vs)[i]? = some S → S = .no ∨ (i ∉ vs ∧ G[i]? = some S)
  | [], h => .inr ⟨List.not_mem_nil, h⟩
  | v :: vs, h => by
    by_cases e : v = i
    · subst e
      have h : ((wipeG G vs).set v .no)[v]? = some S := h
      rw [List.getElem?_set] at h
      simp only [if_true] at h
      split at h
      · injection h with h; exact .inl h.symm
      · cases h
    · have h : ((wipeG G vs).set v .no)[i]? = some S := h
      rw [List.getElem?_set_ne e] at h
      rcases wipeG_get h with q | ⟨q1, q2⟩
      · exact .inl q
      · exact .inr ⟨fun z => by
          rcases List.mem_cons.mp z with z | z
          · exact e z.symm
          · exact q1 z, q2⟩
theorem Rl.into (R : Rl K p O σ H s) (vs : List Nat) : Rl K ⟨p.ha, H, O⟩ O (L2.wipe σ vs) H { s with G := blkG s.G vs } := by
  refine ⟨?_, fun i S e => ?_, fun i j d d' a e1 => ?_, R.hand, fun a o e _ => e, R.dom, fun a z => z, fun a z => (R.dom a z).ne, fun a z _ => z⟩
  · show (wipeG (s.G.map Sl.inn) vs).length = (L2.wipe σ vs).length
    rw [wipeG_len, L2.wipe_length, List.length_map]
    exact R.len
  · rcases wipeG_get e with z | ⟨z1, z2⟩
    · subst z; trivial
    · rw [wipe_get z1]
      rw [List.getElem?_map] at z2
      cases q : s.G[i]? with
      | none => rw [q] at z2; cases z2
      | some S0 =>
        rw [q] at z2
        injection z2 with z2
        have w := R.sl i S0 q
        subst z2
        cases S0 with
        | no => trivial
        | v d => exact w
        | m d =>
          obtain ⟨a, q1, q2, q3, q4, q5⟩ := w
          exact ⟨a, q1, q5.some, q4, q5.r⟩
        | b d =>
          obtain ⟨a, q1, q2, q3, q4⟩ := w
          exact ⟨a, q1, q4.some, q3, q4⟩
        | h => exact w
  · rcases wipeG_get e1 with z | ⟨z1, z2⟩
    · cases z
    · rw [List.getElem?_map] at z2
      cases q : s.G[i]? with
      | none => rw [q] at z2; cases z2
      | some S0 =>
        rw [q] at z2
        injection z2 with z2
        cases S0 <;> cases z2
theorem Rl.back (R : Rl K p O σ H s) (R' : Rl K ⟨p.ha, H, O⟩ O' σ' H' s') (k : Kp O H O' H') : Rl K p O' σ H' { s with hd := s'.hd } := by
  have stay : ∀ {b : Addr}, H b ≠ none → p.ha ≠ some b → H' b = H b := fun {b} h n => by
    cases e : H b with
    | none => exact absurd e h
    | some o => exact R'.frm b o e n
  refine ⟨R.len, fun i S e => ?_, R.inj, R'.hand, fun a o e n => R'.frm a o (R.frm a o e n) n, R'.dom, fun a z => R'.o0 a (R.o0 a z), R.od, fun a z n => ?_⟩
  · have w := R.sl i S e
    cases S with
    | no => trivial
    | v d => obtain ⟨y, e1, e2⟩ := w; exact ⟨y, e1, e2.to k⟩
    | m d =>
      obtain ⟨b, e1, e2, e3, e4, e5⟩ := w
      exact ⟨b, e1, R'.o0 b e2, e3, e4, e5.to k (stay e5.some e4)⟩
    | b d =>
      obtain ⟨b, e1, e2, e3, e4⟩ := w
      exact ⟨b, e1, e2, e3, e4.to k (stay e4.some e3)⟩
    | h => exact w
  · refine R.ob a (R'.ob a z ?_) n
    show H a ≠ none
    by_cases e : p.ha = some a
    · obtain ⟨_, xs, q, _⟩ := R.hand a e
      rw [q]; exact fun z => nomatch z
    · cases q : p.H0 a with
      | none => exact absurd q n
      | some o => rw [R.frm a o q e]; exact fun z => nomatch z

/-! ### targets -/
abbrev PTG := PyData → PSt → (PSt → Prop) → Prop
abbrev PTGs := List PyData → PSt → (PSt → Prop) → Prop
/-- just the slots ws are otherwise -/
def Upd (ws : List Nat) (σ σ' : L2.St) : Prop := ∀ us : List Nat, (∀ w ∈ ws, w ∈ us) → L2.wipe σ' us = L2.wipe σ us
def liftG (K : PySem.W.Frag) (ws : List Nat) (g : PTG) : TG := fun v σ H Q => ∃ p O s d, Rl K p O σ H s ∧ At K O H v d ∧ g d s fun s' => ∀ σ', Rl K p O σ' H s' → Upd ws σ σ' → Q σ' H
def liftGs (K : PySem.W.Frag) (ws : List Nat) (g : PTGs) : TGs := fun vs σ H Q => ∃ p O s ds, Rl K p O σ H s ∧ AtL K O H vs ds ∧ g ds s fun s' => ∀ σ', Rl K p O σ' H s' → Upd ws σ σ' → Q σ' H
structure DG (X : Cx) (tg : Expr) (ws : List Nat) (g : PTG) : Prop where
  pg : PG X tg (liftG X.K ws g)
  mono : ∀ d s Q Q', (∀ s', Q s' → Q' s') → g d s Q → g d s Q'
structure DGs (X : Cx) (tg : List Expr) (ws : List Nat) (g : PTGs) : Prop where
  pg : PGs X tg (liftGs X.K ws g)
  mono : ∀ d s Q Q', (∀ s', Q s' → Q' s') → g d s Q → g d s Q'
theorem PG.weak {t t' : TG} (h : PG X e t) (w : ∀ v σ H Q, t' v σ H Q → t v σ H Q) : PG X e t' := ⟨fun pins s σ H v u Q I r q => h.run pins s σ H v u Q I r (w _ _ _ _ q)⟩
theorem PGs.weak {t t' : TGs} (h : PGs X es t) (w : ∀ v σ H Q, t' v σ H Q → t v σ H Q) : PGs X es t' := ⟨fun pins s σ H v u Q I r q => h.run pins s σ H v u Q I r (w _ _ _ _ q)⟩
theorem Upd.refl {ws : List Nat} : Upd ws σ σ := fun _ _ => rfl
theorem wipe_set {i : Nat} {x : Option V} : ∀ {us : List Nat}, i ∈ us → L2.wipe (σ.set i x) us = L2.wipe σ us
  | [], h => nomatch h
  | u :: us, h => by
    show (L2.wipe (σ.set i x) us).set u none = (L2.wipe σ us).set u none
    by_cases e : i ∈ us
    · rw [wipe_set e]
    · have e' : i = u := (List.mem_cons.mp h).resolve_right e
      subst e'
      have w : ∀ vs : List Nat, i ∉ vs → L2.wipe (σ.set i x) vs = (L2.wipe σ vs).set i x := fun vs => by
        induction vs with
        | nil => exact fun _ => rfl
        | cons y ys ih =>
          intro n
          have n1 : i ≠ y := fun z => n (by rw [z]; exact List.mem_cons_self)
          show (L2.wipe (σ.set i x) ys).set y none = ((L2.wipe σ ys).set y none).set i x
          rw [ih fun z => n (List.mem_cons_of_mem _ z), List.set_comm _ _ n1]
      rw [w us e, List.set_set]
theorem Rl.setv {i : Nat} {x : V} (R : Rl K p O σ H s) (h : At K O H x d) : Rl K p O (σ.set i (some x)) H { s with G := s.G.set i (.v d) } := by
  refine ⟨by rw [List.length_set, List.length_set]; exact R.len, fun j S e => ?_, fun j l d1 d2 c q1 q2 z1 z2 => ?_, R.hand, R.frm, R.dom, R.o0, R.od, R.ob⟩
  · by_cases hj : i = j
    · subst hj
      have e : (s.G.set i (.v d))[i]? = some S := e
      have hi : i < s.G.length := by
        by_cases q : i < s.G.length
        · exact q
        · rw [List.getElem?_eq_none (by rw [List.length_set]; omega)] at e; cases e
      rw [List.getElem?_set_self hi] at e; cases e
      exact ⟨x, by rw [List.getElem?_set_self (by rw [← R.len]; exact hi)], h⟩
    · have e : (s.G.set i (.v d))[j]? = some S := e
      rw [List.getElem?_set_ne hj] at e ⊢
      exact R.sl j S e
  · have get : ∀ (j : Nat) (d1 : PyData), (s.G.set i (.v d))[j]? = some (.m d1) → i ≠ j ∧ s.G[j]? = some (.m d1) := fun j d1 q => by
      by_cases hj : i = j
      · subst hj
        rw [List.getElem?_set] at q
        simp only [if_true] at q
        split at q <;> cases q
      · rw [List.getElem?_set_ne hj] at q; exact ⟨hj, q⟩
    obtain ⟨n1, x1⟩ := get j d1 q1
    obtain ⟨n2, x2⟩ := get l d2 q2
    rw [List.getElem?_set_ne n1] at z1
    rw [List.getElem?_set_ne n2] at z2
    exact R.inj j l d1 d2 c x1 x2 z1 z2
@[simp] def gN (i : Nat) : PTG := fun d s Q => Q { s with G := s.G.set i (.v d) }
theorem dg_name {i : Nat} {x : Str} (hN : X.N.Nodup) (hi : X.N[i]? = some x) (hx : Loc X.env.scope x) (hf : X.fn x = true ∨ X.env.scope.names.lookup x = some .local) : DG X (.Name x pos) [i] (gN i) :=
  ⟨PG.weak (pg_name hN hi hx hf) fun v σ H Q ⟨p, O, s, d, R, h, q⟩ => q _ (R.setv h) fun us hu => wipe_set (hu i List.mem_cons_self), fun d s Q Q' w q => w _ q⟩
@[simp] def gNi : PTGs := fun ds s Q => ds = [] ∧ Q s
@[simp] def gCo (g : PTG) (u : PTGs) : PTGs := fun ds s Q => ∃ d r, ds = d :: r ∧ g d s fun s' => u r s' Q
theorem dgs_nil : DGs X [] [] gNi :=
  ⟨PGs.weak pgs_nil fun vs σ H Q ⟨p, O, s, ds, R, h, e, q⟩ => by subst e; cases h; exact ⟨rfl, q σ R .refl⟩, fun d s Q Q' w q => ⟨q.1, w _ q.2⟩⟩
theorem dgs_cons {ws us : List Nat} {g : PTG} {u : PTGs} (h1 : DG X e ws g) (h2 : DGs X es us u)
    (hs : (assignEach (e :: es) X.env).map (·.2) = assign e X.env :: (assignEach es X.env).map (·.2) := by rfl) : DGs X (e :: es) (ws ++ us) (gCo g u) :=
  ⟨PGs.weak (pgs_cons h1.pg h2.pg hs) fun vs σ H Q ⟨p, O, s, ds, R, h, d, r, e, q⟩ => by
    subst e
    cases h with
    | cons a1 a2 =>
      refine ⟨_, _, rfl, p, O, s, d, R, a1, h1.mono _ _ _ _ (fun s1 q1 σ1 R1 u1 => ⟨p, O, s1, r, R1, a2, h2.mono _ _ _ _ (fun s2 q2 σ2 R2 u2 => q2 σ2 R2 fun xs hx => ?_) q1⟩) q⟩
      rw [u2 xs fun w z => hx w (List.mem_append_right _ z), u1 xs fun w z => hx w (List.mem_append_left _ z)],
    fun d s Q Q' w ⟨x, r, e, q⟩ => ⟨x, r, e, h1.mono _ _ _ _ (fun s' => h2.mono _ _ _ _ w) q⟩⟩
@[simp] def gTu (n : Nat) (u : PTGs) : PTG := fun d s Q => ∃ ds, d = .tuple ds ∧ ds.length = n ∧ u ds s Q
theorem dg_tup {ws : List Nat} {k : Nat} {u : PTGs} {n : Nat} (hc : X.calm = true) (h : DGs X es ws u)
    (hn : (assignEach es X.env).length = n := by rfl) (hst : (assignEach es X.env).findIdx? (·.1) = none := by rfl) : DG X (.Tuple es k pos) ws (gTu n u) :=
  ⟨PG.weak (pg_tup hc h.pg hn hst) fun v σ H Q ⟨p, O, s, d, R, a, ds, e, hl, q⟩ => by
    subst e
    cases a with
    | tup s1 l1 => exact ⟨_, _, rfl, s1.sq, by rw [l1.len]; exact hl, p, O, s, ds, R, l1, q⟩,
    fun d s Q Q' w ⟨ds, e, hl, q⟩ => ⟨ds, e, hl, h.mono _ _ _ _ w q⟩⟩

/-! ### what is walked -/
/-- how much stands through the walk; lo: all but the hand -/
def Stand (lo : Bool) (p : Pm) (O1 : Ow) (H1 : Hp) (O : Ow) (H : Hp) : Prop := Kp O1 H1 O H ∧ (lo = true → ∀ a o, H1 a = some o → p.ha ≠ some a → H a = some o)
structure ItOk (K : PySem.W.Frag) (G : Ow → Hp → Prop) (J : It) (items : List PyData) : Prop where
  go : ∀ i O H, G O H → i < items.length → J.go i H
  stop : ∀ i O H, G O H → items.length ≤ i → J.stop i H
  yld : ∀ i O H x H' d, G O H → (∀ a, O a → NT (H a)) → items[i]? = some d → J.yld i H x H' → (H' = H ∨ ∃ q o, H q = none ∧ H' = upd H q o) ∧ At K O H' x d
abbrev PTI := PSt → (List PyData → PSt → Prop) → Prop
def liftI (K : PySem.W.Frag) (lo : Bool) (t : PTI) : TI := fun σ H R => ∃ p O s, Rl K p O σ H s ∧ t s fun items s' => ∀ J O' H', Rl K p O' σ H' s' → Kp O H O' H' → ItOk K (Stand lo p O' H') J items → R J H'
structure DI (X : Cx) (lo : Bool) (tg e : Expr) (t : PTI) : Prop where
  pi : PI X tg e (liftI X.K lo t)
  mono : ∀ s Q Q', (∀ d s', Q d s' → Q' d s') → t s Q → t s Q'
theorem PI.weak {tg : Expr} {t t' : TI} (h : PI X tg e t) (w : ∀ σ H Q, t' σ H Q → t σ H Q) : PI X tg e t' := ⟨fun pins s σ H Q I q => h.run pins s σ H Q I (w _ _ _ q)⟩
theorem Stand.lo {lo : Bool} {O1 : Ow} {H1 : Hp} (h : Stand true p O1 H1 O H) : Stand lo p O1 H1 O H := ⟨h.1, fun _ => h.2 rfl⟩
theorem DI.lo {tg : Expr} {t : PTI} (h : DI X false tg e t) : DI X true tg e t :=
  ⟨PI.weak h.pi fun σ H R ⟨p, O, s, r, q⟩ => ⟨p, O, s, r, h.mono _ _ _ (fun d s' k J O' H' r' kp i => k J O' H' r' kp ⟨fun n O2 H2 g => i.go n O2 H2 ⟨g.1, fun z => nomatch z⟩, fun n O2 H2 g => i.stop n O2 H2 ⟨g.1, fun z => nomatch z⟩, fun n O2 H2 x H3 d g => i.yld n O2 H2 x H3 d ⟨g.1, fun z => nomatch z⟩⟩) q⟩, h.mono⟩
/-- lists -/
theorem it_list {G : Ow → Hp → Prop} {a : Addr} {xs : List V} {ds : List PyData} (h : ∀ O H, G O H → H a = some (.lst xs) ∧ AtL K O H xs ds) : ItOk K G (Itl K a) ds where
  go i O H g hi := by
    obtain ⟨h1, h2⟩ := h O H g
    exact ⟨xs, _, SqL.of h1, List.getElem?_eq_getElem (by rw [h2.len]; exact hi)⟩
  stop i O H g hi := by
    obtain ⟨h1, h2⟩ := h O H g
    exact ⟨xs, SqL.of h1, by rw [h2.len]; exact hi⟩
  yld i O H x H' d g _ hd y := by
    obtain ⟨e, y⟩ := y
    subst e
    obtain ⟨h1, h2⟩ := h O H' g
    obtain ⟨w, w1, w2⟩ := h2.get' hd
    rw [y xs (SqL.of h1)] at w1
    cases w1
    exact ⟨.inl rfl, w2⟩
theorem it_tup {G : Ow → Hp → Prop} {a : Addr} {xs : List V} {ds : List PyData} (h : ∀ O H, G O H → SqTo O H a xs ∧ AtL K O H xs ds) : ItOk K G (Itt K a) ds where
  go i O H g hi := by
    obtain ⟨h1, h2⟩ := h O H g
    exact ⟨xs, _, h1.sq, List.getElem?_eq_getElem (by rw [h2.len]; exact hi)⟩
  stop i O H g hi := by
    obtain ⟨h1, h2⟩ := h O H g
    exact ⟨xs, h1.sq, by rw [h2.len]; exact hi⟩
  yld i O H x H' d g _ hd y := by
    obtain ⟨e, y⟩ := y
    subst e
    obtain ⟨h1, h2⟩ := h O H' g
    obtain ⟨w, w1, w2⟩ := h2.get' hd
    rw [y xs h1.sq] at w1
    cases w1
    exact ⟨.inl rfl, w2⟩
theorem it_rng {G : Ow → Hp → Prop} {lo : Int} {n : Nat} : ItOk K G (Itr lo n) ((List.range n).map fun i => .int (lo + (i : Nat))) where
  go i O H g hi := by
    show i < n
    simpa using hi
  stop i O H g hi := by
    show n ≤ i
    simpa using hi
  yld i O H x H' d g _ hd y := by
    obtain ⟨e, y⟩ := y
    subst e y
    have hi : i < n := by
      have := (List.getElem?_eq_some_iff.mp hd).1
      simpa using this
    rw [List.getElem?_map, List.getElem?_range hi] at hd
    cases hd
    exact ⟨.inl rfl, .int _⟩
/-- a new pair -/
theorem at_pair {T : Addr} {x y : V} {d d' : PyData} (hd : ∀ a, O a → NT (H a)) (hT : H T = none) (h1 : At K O H x d) (h2 : At K O H y d') : At K O (upd H T (.tup [x, y])) (.ref T) (.tuple [d, d']) :=
  .tup ⟨fun z => (hd T z).ne hT, upd_same⟩ (.cons (h1.to (Kp.new hT)) (.cons (h2.to (Kp.new hT)) .nil))
def enumD (ds : List PyData) : List PyData := ds.mapIdx fun i d => .tuple [.int (i : Nat), d]
theorem it_enum {G : Ow → Hp → Prop} {a : Addr} {xs : List V} {ds : List PyData} (h : ∀ O H, G O H → H a = some (.lst xs) ∧ AtL K O H xs ds) : ItOk K G (Ite K a) (enumD ds) where
  go i O H g hi := by
    obtain ⟨h1, h2⟩ := h O H g
    exact ⟨xs, _, SqL.of h1, List.getElem?_eq_getElem (by rw [h2.len]; simpa [enumD] using hi)⟩
  stop i O H g hi := by
    obtain ⟨h1, h2⟩ := h O H g
    exact ⟨xs, SqL.of h1, by rw [h2.len]; simpa [enumD] using hi⟩
  yld i O H x H' d g hdm hd y := by
    obtain ⟨T, v, e1, hT, e2, y⟩ := y
    subst e1 e2
    obtain ⟨h1, h2⟩ := h O H g
    have y := y xs (SqL.of h1)
    obtain ⟨w, w1, w2⟩ := h2.get y
    have hd : (ds.mapIdx fun i d => PyData.tuple [.int (i : Nat), d])[i]? = some d := hd
    rw [List.getElem?_mapIdx, w1] at hd
    cases hd
    exact ⟨.inr ⟨T, _, hT, rfl⟩, at_pair hdm hT (.int _) w2⟩
def zipD (xs ys : List PyData) : List PyData := (xs.zip ys).map fun p => .tuple [p.1, p.2]
theorem zipD_get {ds es : List PyData} {i : Nat} {d : PyData} (h : (zipD ds es)[i]? = some d) : ∃ x y, ds[i]? = some x ∧ es[i]? = some y ∧ d = .tuple [x, y] := by
  unfold zipD at h
  rw [List.getElem?_map] at h
  cases q : (ds.zip es)[i]? with
  | none => rw [q] at h; cases h
  | some pr =>
    rw [q] at h
    injection h with h
    have := List.getElem?_zip_eq_some.mp q
    exact ⟨pr.1, pr.2, this.1, this.2, h.symm⟩
theorem it_zipL {G : Ow → Hp → Prop} {a b : Addr} {xs ys : List V} {ds es : List PyData} (h : ∀ O H, G O H → (H a = some (.lst xs) ∧ AtL K O H xs ds) ∧ H b = some (.lst ys) ∧ AtL K O H ys es) : ItOk K G (Itz K a b) (zipD ds es) where
  go i O H g hi := by
    obtain ⟨⟨h1, h2⟩, h3, h4⟩ := h O H g
    have hi : i < ds.length ∧ i < es.length := by simpa [zipD, Nat.lt_min] using hi
    exact ⟨xs, ys, _, _, SqL.of h1, SqL.of h3, List.getElem?_eq_getElem (by rw [h2.len]; exact hi.1), List.getElem?_eq_getElem (by rw [h4.len]; exact hi.2)⟩
  stop i O H g hi := by
    obtain ⟨⟨h1, h2⟩, h3, h4⟩ := h O H g
    refine ⟨xs, ys, SqL.of h1, SqL.of h3, ?_⟩
    have hi : min ds.length es.length ≤ i := by simpa [zipD] using hi
    rw [h2.len, h4.len]
    omega
  yld i O H x H' d g hdm hd y := by
    obtain ⟨T, v, w, e1, hT, e2, y1, y2⟩ := y
    subst e1 e2
    obtain ⟨⟨h1, h2⟩, h3, h4⟩ := h O H g
    obtain ⟨w1, q1, r1⟩ := h2.get (y1 xs (SqL.of h1))
    obtain ⟨w2, q2, r2⟩ := h4.get (y2 ys (SqL.of h3))
    obtain ⟨x', y', z1, z2, z3⟩ := zipD_get hd
    rw [q1] at z1; cases z1
    rw [q2] at z2; cases z2
    subst z3
    exact ⟨.inr ⟨T, _, hT, rfl⟩, at_pair hdm hT r1 r2⟩
theorem it_zipT {G : Ow → Hp → Prop} {a b : Addr} {xs ys : List V} {ds es : List PyData} (h : ∀ O H, G O H → (SqTo O H a xs ∧ AtL K O H xs ds) ∧ SqTo O H b ys ∧ AtL K O H ys es) : ItOk K G (RZ.ItzT K a b) (zipD ds es) where
  go i O H g hi := by
    obtain ⟨⟨h1, h2⟩, h3, h4⟩ := h O H g
    have hi : i < ds.length ∧ i < es.length := by simpa [zipD, Nat.lt_min] using hi
    exact ⟨xs, ys, _, _, h1.sq, h3.sq, List.getElem?_eq_getElem (by rw [h2.len]; exact hi.1), List.getElem?_eq_getElem (by rw [h4.len]; exact hi.2)⟩
  stop i O H g hi := by
    obtain ⟨⟨h1, h2⟩, h3, h4⟩ := h O H g
    refine ⟨xs, ys, h1.sq, h3.sq, ?_⟩
    have hi : min ds.length es.length ≤ i := by simpa [zipD] using hi
    rw [h2.len, h4.len]
    omega
  yld i O H x H' d g hdm hd y := by
    obtain ⟨T, v, w, e1, hT, e2, y1, y2⟩ := y
    subst e1 e2
    obtain ⟨⟨h1, h2⟩, h3, h4⟩ := h O H g
    obtain ⟨w1, q1, r1⟩ := h2.get (y1 xs h1.sq)
    obtain ⟨w2, q2, r2⟩ := h4.get (y2 ys h3.sq)
    obtain ⟨x', y', z1, z2, z3⟩ := zipD_get hd
    rw [q1] at z1; cases z1
    rw [q2] at z2; cases z2
    subst z3
    exact ⟨.inr ⟨T, _, hT, rfl⟩, at_pair hdm hT r1 r2⟩
end
end PD
end
section
set_option Elab.async false
set_option linter.all false
set_option maxRecDepth 100000
set_option maxHeartbeats 4000000
/-! PD11: enumerate of a tuple; sources of walks. -/
namespace PD
open PySem PySem.Spec PyProof.Rows L2

/-! ### enumerate(tuple) -/
theorem enumT_new {v : Value} {o : Obj} {G : Heap → Prop} (B : Begins v o G) :
    Meets (Builtin.«enumerate.__new__» ⟨[.type "enumerate", v], []⟩) (fun _ R s => G s.heap ∧
      R (.ok (.ret (.ref (s.heap.push o).objs.size))) { s with heap := (s.heap.push o).push { cls := .type "enumerate", data := .fields #[.none, .bool false, .ref s.heap.objs.size, rawInt 0, .none, .none] } }) :=
  .of_wp fun prog w A R s hh => by
    obtain ⟨hp, g, d, tk, os⟩ := s
    obtain ⟨h1, hr⟩ := hh
    have sub := sub_enumerate
    have step : ∀ {A' : Around} {E : Value → Shared → Prop} {Q : Value → Shared → Prop}, Q (.ref hp.objs.size) ⟨hp.push o, g, d, tk, os⟩ → wpAny (model prog w) A' (pyIter v) Q E ⟨hp, g, d, tk, os⟩ :=
      fun z => B.iter prog w _ _ ⟨hp, g, d, tk, os⟩ _ h1 z
    wp_walk using step
    refine wpAny_stack_any fun stk => wpAny_pure ?_
    split
    · rename_i c1 _ _ _ _ _
      cases (c1 == Value.type "enumerate") <;> (wp_walk using step; exact ⟨_, rfl, hr⟩)
    · wp_walk using step
      exact ⟨_, rfl, hr⟩
theorem call_enumT {prog : Program} {w : World} {A : Around} {E : Value → Shared → Prop} {s : Shared} {v : Value} {o : Obj} {G : Heap → Prop} {Q : Value → Shared → Prop} (B : Begins v o G) (h1 : G s.heap)
    (h : ∀ h', IsEnum h' (s.heap.objs.size + 1) s.heap.objs.size 0 .none → h'.get? s.heap.objs.size = some o →
      (∀ b u, s.heap.get? b = some u → h'.get? b = some u) → Q (.ref (s.heap.objs.size + 1)) { s with heap := h' }) :
    wpAny (model prog w) A (call (.type "enumerate") [v]) Q E s := by
  refine callType_new F.called_enumerate (by decide) (F.typeCall_enumerate_1 _) (F.newCall_enumerate_1 _) (fun ob => F.args_object_init_2 ob _) F.entry_enumerate_new (enumT_new B) ⟨h1, ?_⟩
  have size : (s.heap.push o).objs.size = s.heap.objs.size + 1 := Heap.size_push ..
  show _ ∧ _
  rw [size]
  have e1 : IsEnum ((s.heap.push o).push { cls := .type "enumerate", data := .fields #[.none, .bool false, .ref s.heap.objs.size, rawInt 0, .none, .none] }) (s.heap.objs.size + 1) s.heap.objs.size 0 .none := by
    have w1 := Heap.get?_push_size (s.heap.push o) (o := { cls := .type "enumerate", data := .fields #[.none, .bool false, .ref s.heap.objs.size, rawInt 0, .none, .none] }) rfl
    rw [size] at w1
    exact w1
  exact ⟨⟨_, e1, rfl⟩, h _ e1 (Heap.get?_push_of_some _ (Heap.get?_push_size _ B.free)) fun b u x => Heap.get?_push_of_some _ (Heap.get?_push_of_some _ x)⟩
theorem enumT_end {prog : Program} {w : World} {A : Around} {E : Value → Shared → Prop} {s : Shared} {e it t : Addr} {i : Nat} {k : Int} {items : Array Value} {old : Value} {Q : Option Value → Shared → Prop} (hh : A.handled = none) (he : IsEnum s.heap e it k old) (hit : s.heap.IsTupleIter it t i) (ht : s.heap.IsTuple t items) (hx : items[i]? = none)
    (hQ : ∀ h', Heap.ExtBut it s.heap h' → Q none { s with heap := h' }) : wpAny (model prog w) A (pyNext (.ref e)) Q E s := by
  have ty : s.TypeIs (.ref e) "enumerate" := ⟨_, he, rfl⟩
  unfold pyNext
  refine wpAny_bind (wpAny_attempt (wpAny_callSpecial?_slot (name := Str.ofString "__next__") ty F.slot_enumerate_next (wpAny_call_entry F.slot_enumerate_next ty F.entry_enumerate_next ?_ (F.args_enumerate_next_1 _))))
  show wpAny _ _ (field (.ref e) 2 >>= _) _ _ _
  refine wpAny_bind (wpAny_field he rfl (x := .ref it) rfl (wpAny_bind (wpAny_nextOf_tuple_end hh hit ht hx fun h2 x e2 x2 => ?_)))
  obtain ⟨u, u1, u2⟩ := x2
  exact wpAny_bind (wpAny_isInstance (T := "StopIteration") (b := true) ⟨u, u1, u2⟩ isSubtype_stop (wpAny_pure (hQ _ e2)))
def IteT (K : PySem.W.Frag) (a : Addr) : It :=
  ⟨fun i H => ∃ (xs : List V) (x : V), SqT K H a xs ∧ xs[i]? = some x, fun i H v H' => ∃ T x, v = .ref T ∧ H T = none ∧ H' = upd H T (.tup [.int (i : Nat), x]) ∧ ∀ xs, SqT K H a xs → xs[i]? = some x, fun i H => ∃ xs : List V, SqT K H a xs ∧ xs.length ≤ i⟩
theorem turn_enumT {P : Program} {w : World} {K : PySem.W.Frag} {elts : List Expr} {kk : Nat} {tpos : Pos} (a e it : Addr) :
    Turn P w K (.Tuple elts kk tpos) (IteT K a) [e, it] e (fun i h => (∃ old, IsEnum h e it ((i : Nat) : Int) old) ∧ h.IsTupleIter it a i ∧ e ≠ it) where
  mem := List.mem_cons_self
  obj := fun i h st b hb => by
    obtain ⟨⟨old, h1⟩, ⟨o, h2, h3, h4⟩, _⟩ := st
    have hb : b = e ∨ b = it := by simpa using hb
    rcases hb with z | z
    · subst z; exact ⟨_, h1, fun v q => nomatch q⟩
    · subst z; exact ⟨o, h2, fun v q => by rw [h4] at q; cases q⟩
  keep := fun i h h' ⟨⟨old, h1⟩, h2, h3⟩ k => ⟨⟨old, k e (by simp) _ h1⟩, h2.at fun o q => k it (by simp) o q, h3⟩
  item := by
    intro X hP hw hK hc i pins s σ H E I hf st hg
    subst hP hw hK
    obtain ⟨⟨old, he⟩, hit, hne⟩ := st
    obtain ⟨xs, x, hq, hx⟩ := hg
    obtain ⟨its, rv, pt, _⟩ := I.tuple hq
    obtain ⟨u, hu, ru⟩ := rv.get hx
    have le : e < s.heap.objs.size := Heap.lt_size he
    have li : it < s.heap.objs.size := by obtain ⟨_, q, _⟩ := hit; exact Heap.lt_size q
    obtain ⟨ob, hob, hcls, hdat⟩ := id pt
    have ha : a ≠ it := fun z => by
      obtain ⟨o2, g1, g2, g3⟩ := hit
      rw [z] at hob
      rw [hob] at g1
      cases g1
      obtain ⟨n, hd⟩ := hdat
      rw [g3] at hd; cases hd
    have hae : e ≠ a := fun z => by
      rw [← z] at hob
      rw [he] at hob
      cases hob
      obtain ⟨n, hd⟩ := hdat
      cases hd
    have hl : i < its.toArray.size := by
      have := (List.getElem?_eq_some_iff.mp hu).1
      simpa using this
    refine wpAny_pyNext_enum_itemD (Draws.tuple (prog := X.prog) (w := X.w) (A := X.A.in1) (I.ok.hd hc) it a ha its.toArray) he ⟨hit, pt⟩ hl hne (by simp only [List.mem_cons, List.not_mem_nil, or_false, not_or]; exact ⟨hne, hae⟩) fun y h' tk hP ho hs' hT hz hk => ?_
    have ey : y = u := by
      have hP : its.toArray[i]? = some y := hP
      rw [List.getElem?_toArray, hu] at hP
      injection hP with hP
      exact hP.symm
    subst ey
    refine ⟨_, rfl, wpAny_letOwnedTupleGo_enum (s := { s with heap := h', toks := tk + 1 }) ho fun h2 he2 sb => ?_⟩
    have hT2 : h2.get? s.heap.objs.size = some { cls := .type "tuple", data := .seq #[.int i tk, y] } := (sb.2 _ (Nat.ne_of_gt le)).trans hT
    have new : ObjOk X.prog X.w (upd H s.heap.objs.size (.tup [.int (i : Nat), x])) h2 s.heap.objs.size (.tup [.int (i : Nat), x]) :=
      ⟨by show 2 ≤ sizeLine; decide, [.int i tk, y], .cons ⟨_, rfl⟩ (.cons ru .nil), ⟨_, hT2, rfl, _, rfl⟩⟩
    have I1 : Inv X pins σ (upd H s.heap.objs.size (.tup [.int (i : Nat), x])) { s with heap := h2, toks := tk + 1 } :=
      I.turnedNew (ch := [e, it]) (fun b o hb q => (sb.2 b (fun z => hb (by simp [z]))).trans (hk b o (fun z => hb (by simp [z])) (fun z => hb (by simp [z])) q)) hf (Nat.le_refl _) new
    refine ⟨.ref s.heap.objs.size, _, I1, rfl, ⟨_, x, rfl, I.hok.fresh (Nat.le_refl _), rfl, fun ys hy => by rw [I.tuple_inj hy hq]; exact hx⟩, ⟨⟨y, ?_⟩, hs'.1.at fun o q => (sb.2 it (Ne.symm hne)).trans q, hne⟩, fun b hb => ?_⟩
    · have e1 : ((i + 1 : Nat) : Int) = (i : Int) + 1 := by omega
      rw [e1]
      exact he2
    · have hb2 : b < s.heap.objs.size := by
        have hb : b = e ∨ b = it := by simpa using hb
        rcases hb with z | z <;> subst z <;> assumption
      rw [upd_ne (Nat.ne_of_lt hb2)]
      exact (hf b hb).1
  done := by
    intro X hP hw hK hc i pins s σ H E I hf st hg
    subst hP hw hK
    obtain ⟨⟨old, he⟩, hit, hne⟩ := st
    obtain ⟨xs, hq, hx⟩ := hg
    obtain ⟨its, rv, pt, _⟩ := I.tuple hq
    obtain ⟨f0, f1, f2, f3, f4, f5⟩ := hf it (by simp)
    have hl := rv.length
    obtain ⟨ob, hob, hcls, hdat⟩ := id pt
    have ha : a ≠ it := fun z => by
      obtain ⟨o2, g1, g2, g3⟩ := hit
      rw [z] at hob
      rw [hob] at g1
      cases g1
      obtain ⟨n, hd⟩ := hdat
      rw [g3] at hd; cases hd
    exact enumT_end (I.ok.hd hc) he hit pt (by simp; omega) fun h' eb => ⟨rfl, I.turned (t' := s.toks) (fun b o hb q => eb b o hb q) f0 f1 f3 f4 f5⟩
  self := fun A i s Q E st h => wpAny_pyIter_enum st.1.choose_spec h
end PD
end
section
set_option Elab.async false
set_option linter.all false
set_option maxRecDepth 100000
set_option maxHeartbeats 4000000
/-! PD12: sources of walks; list comprehensions. -/
namespace PD
open PySem PySem.Spec PyProof.Rows L2

section
variable {K : PySem.W.Frag} {X : Cx} {p : Pm} {O O' : Ow} {σ σ' : L2.St} {H H' : Hp} {s s' : PSt} {v : V} {d : PyData} {a : Addr} {e ea eb tg : Expr} {es : List Expr} {pos ppos : Pos}

theorem pie_list {pins : List (Addr × Obj)} {sh : Shared} {R : It → Hp → Prop} {E : Value → Shared → Prop} {xs : List V} (I : Inv X pins σ H sh) (h : SqL X.K H a xs) (r : R (Itl X.K a) H) : wpAny (model X.prog X.w) X.A (pyIter (.ref a)) (PIE X pins σ tg R) E sh := by
  obtain ⟨us, ru, pl, _⟩ := I.list h
  refine wpAny_pyIter_list pl.isList ⟨sh.heap.objs.size, [sh.heap.objs.size], _, _, H, rfl, ?_, turn_list a _, ⟨_, Heap.get?_push_size _ rfl, rfl, rfl⟩, fun b hb => ?_, r⟩
  · exact I.kept (t' := sh.toks) fun b o z => Heap.get?_push_of_some _ z
  · cases List.mem_singleton.mp hb
    exact I.fpOk (Nat.le_refl _) (I.hok.fresh (Nat.le_refl _))
theorem pie_tup {pins : List (Addr × Obj)} {sh : Shared} {R : It → Hp → Prop} {E : Value → Shared → Prop} {xs : List V} (I : Inv X pins σ H sh) (h : SqT X.K H a xs) (r : R (Itt X.K a) H) : wpAny (model X.prog X.w) X.A (pyIter (.ref a)) (PIE X pins σ tg R) E sh := by
  obtain ⟨us, ru, pl, _⟩ := I.tuple h
  refine wpAny_pyIter_tuple (show sh.heap.IsTuple a us.toArray from pl) ⟨sh.heap.objs.size, [sh.heap.objs.size], _, _, H, rfl, ?_, turn_tuple a _, ⟨_, Heap.get?_push_size _ rfl, rfl, rfl⟩, fun b hb => ?_, r⟩
  · exact I.kept (t' := sh.toks) fun b o z => Heap.get?_push_of_some _ z
  · cases List.mem_singleton.mp hb
    exact I.fpOk (Nat.le_refl _) (I.hok.fresh (Nat.le_refl _))
def iSeq (K : PySem.W.Frag) (tl : TE) : TI := fun σ H R => tl σ H fun x H1 => ∃ a, x = .ref a ∧ ((∃ xs, SqL K H1 a xs ∧ R (Itl K a) H1) ∨ ∃ xs, SqT K H1 a xs ∧ R (Itt K a) H1)
theorem pi_seq {tl : TE} (h : PE X e tl) : PI X tg e (iSeq X.K tl) := ⟨fun pins sh σ H R I q => by
  refine thn (h.run pins sh σ H _ I q) fun v s1 ⟨x, H1, I1, r1, b, ex, q1⟩ => ?_
  subst ex
  cases r1
  rcases q1 with ⟨xs, h1, h2⟩ | ⟨xs, h1, h2⟩
  · exact pie_list I1 h1 h2
  · exact pie_tup I1 h1 h2⟩
@[simp] def tWk (t : PTE) : PTI := fun s Q => t s fun d s' => ∃ ds, (d = .list ds ∨ d = .tuple ds) ∧ Q ds s'
theorem di_seq {t : PTE} (h : DE X e t) : DI X false tg e (tWk t) :=
  ⟨PI.weak (pi_seq h.pe) fun σ H R ⟨p, O, s, r, q⟩ => ⟨p, O, s, r, h.mono _ _ _ (fun d s' ⟨ds, ed, k⟩ v O' H' r' kp av => by
      rcases ed with z | z <;> subst z <;> cases av
      · rename_i b xs h1 h2
        exact ⟨b, rfl, .inl ⟨xs, h1.sq, k _ _ _ r' kp (it_list fun O2 H2 g => ⟨(g.1.sqL h1).2, h2.to g.1⟩)⟩⟩
      · rename_i b xs h1 h2
        exact ⟨b, rfl, .inr ⟨xs, h1.sq, k _ _ _ r' kp (it_tup fun O2 H2 g => ⟨g.1.sqT h1, h2.to g.1⟩)⟩⟩) q⟩,
    fun s Q Q' w q => h.mono _ _ _ (fun d s' ⟨ds, ed, k⟩ => ⟨ds, ed, w _ _ k⟩) q⟩
/-- a list that a name holds, walked while it stands -/
@[simp] def tWkL (t : PTL) : PTI := fun s Q => t s fun r s' => ∃ d ds, rd s' r = some d ∧ (d = .list ds ∨ d = .tuple ds) ∧ Q ds s'
theorem Rl.readH {r : Rv} (R : Rl K p O σ H s) (h : RvOk K p O σ H (.ref a) r) (e : rd s r = some d) : p.ha ≠ some a := by
  cases r with
  | c d' =>
    injection e with e
    subst e
    intro z
    have ho := (R.hand a z).1
    have h : At K O H (.ref a) d' := h
    cases h with
    | lst h1 _ => exact h1.1 ho
    | tup h1 _ => exact h1.1 ho
    | dicK h1 _ _ => exact h1 ho
    | dicT h1 _ _ => exact h1 ho
  | s i =>
    have h : σ[i]? = some (some (.ref a)) := h
    have e : s.G[i]?.bind Sl.data = some d := e
    cases q : s.G[i]? with
    | none => rw [q] at e; cases e
    | some S =>
      rw [q] at e
      have z := R.sl i S q
      rw [h] at z
      cases S with
      | no => cases e
      | v d' =>
        obtain ⟨y, e1, e2⟩ := z
        cases e1
        intro z
        have ho := (R.hand a z).1
        cases e2 with
        | lst h1 _ => exact h1.1 ho
        | tup h1 _ => exact h1.1 ho
        | dicK h1 _ _ => exact h1 ho
        | dicT h1 _ _ => exact h1 ho
      | m d' => obtain ⟨y, e1, _, _, e2, _⟩ := z; cases e1; exact e2
      | b d' => obtain ⟨y, e1, _, e2, _⟩ := z; cases e1; exact e2
      | h => cases e
theorem di_seqL {t : PTL} (h : DL X e t) : DI X true tg e (tWkL t) :=
  ⟨PI.weak (pi_seq h.pe) fun σ H R ⟨p, O, s, r, q⟩ => ⟨p, O, s, r, h.mono _ _ _ (fun x s' ⟨d, ds, er, ed, k⟩ v O' H' r' kp av => by
      have ae := r'.read av er
      rcases ed with z | z <;> subst z
      · obtain ⟨b, xs, ev, h1, h2⟩ := ae.lst
        subst ev
        have hh := r'.readH av er
        exact ⟨b, rfl, .inl ⟨xs, SqL.of h1, k _ _ _ r' kp (it_list fun O2 H2 g => ⟨g.2 rfl _ _ h1 hh, h2.to g.1⟩)⟩⟩
      · obtain ⟨b, xs, ev, h1, h2⟩ := ae.tup
        subst ev
        exact ⟨b, rfl, .inr ⟨xs, h1.sq, k _ _ _ r' kp (it_tup fun O2 H2 g => ⟨g.1.sqT h1, h2.to g.1⟩)⟩⟩) q⟩,
    fun s Q Q' w q => h.mono _ _ _ (fun x s' ⟨d, ds, er, ed, k⟩ => ⟨d, ds, er, ed, w _ _ k⟩) q⟩
def rngD (lo : Int) (n : Nat) : List PyData := (List.range n).map fun i => .int (lo + (i : Nat))
@[simp] def tRg1 (t : PTA) : PTI := fun s Q => t s fun ds s' => ∃ n : Int, ds = [.int n] ∧ -(2 ^ 62) ≤ n ∧ n < 2 ^ 62 ∧ Q (rngD 0 n.toNat) s'
theorem di_rng1 {t : PTA} (hg : Gl X "range") (hm : X.mg "range" = none) (h : DA X [e] t) (hs : starEach [e] X.env = [(false, eval e X.env)] := by rfl) : DI X false tg (.Call (.Name "range" ppos) [e] [] pos) (tRg1 t) :=
  ⟨PI.weak (pi_range1 hg hm h.pa hs) fun σ H R ⟨p, O, s, r, q⟩ => ⟨p, O, s, r, h.mono _ _ _ (fun ds s' ⟨n, ed, h1, h2, k⟩ vs O' H' r' kp av => by
      subst ed
      cases av with
      | cons a1 a2 =>
        cases a2; cases a1
        exact ⟨n, rfl, h1, h2, k _ _ _ r' kp it_rng⟩) q⟩,
    fun s Q Q' w q => h.mono _ _ _ (fun ds s' ⟨n, ed, h1, h2, k⟩ => ⟨n, ed, h1, h2, w _ _ k⟩) q⟩
@[simp] def tRg2 (t : PTA) : PTI := fun s Q => t s fun ds s' => ∃ m n : Int, ds = [.int m, .int n] ∧ (-(2 ^ 62) ≤ m ∧ m < 2 ^ 62 ∧ -(2 ^ 62) ≤ n ∧ n < 2 ^ 62) ∧ Q (rngD m (n - m).toNat) s'
theorem di_rng2 {t : PTA} (hg : Gl X "range") (hm : X.mg "range" = none) (h : DA X [e, ea] t) (hs : starEach [e, ea] X.env = [(false, eval e X.env), (false, eval ea X.env)] := by rfl) (hs2 : starEach [ea] X.env = [(false, eval ea X.env)] := by rfl) : DI X false tg (.Call (.Name "range" ppos) [e, ea] [] pos) (tRg2 t) :=
  ⟨PI.weak (pi_range2 hg hm h.pa hs hs2) fun σ H R ⟨p, O, s, r, q⟩ => ⟨p, O, s, r, h.mono _ _ _ (fun ds s' ⟨m, n, ed, h1, k⟩ vs O' H' r' kp av => by
      subst ed
      cases av with
      | cons a1 a2 =>
        cases a2 with
        | cons a2 a3 =>
          cases a3; cases a1; cases a2
          exact ⟨m, n, rfl, h1, k _ _ _ r' kp it_rng⟩) q⟩,
    fun s Q Q' w q => h.mono _ _ _ (fun ds s' ⟨m, n, ed, h1, k⟩ => ⟨m, n, ed, h1, w _ _ k⟩) q⟩
/-- enumerate of a list or a tuple -/
def iEn (K : PySem.W.Frag) (ta : TA) : TI := fun σ H R => ta σ H fun vs H1 => ∃ a xs, vs = [.ref a] ∧ ((SqL K H1 a xs ∧ R (Ite K a) H1) ∨ (SqT K H1 a xs ∧ R (IteT K a) H1))
theorem pi_en {ta : TA} {elts : List Expr} {kk : Nat} {tpos : Pos} (hg : Gl X "enumerate") (hm : X.mg "enumerate" = none) (ha : PA X [e] ta) (hs : starEach [e] X.env = [(false, eval e X.env)] := by rfl) :
    PI X (.Tuple elts kk tpos) (.Call (.Name "enumerate" ppos) [e] [] pos) (iEn X.K ta) := by
  refine ⟨fun pins sh σ H R I h => ?_⟩
  refine Call_ (ld_blt I hg hm boot_enumerate (PyProof.Rows.callWith_type1 (thn (ha.run pos pins sh σ H _ I h) fun us s1 ⟨vs, H1, I1, r1, b, xs, ev, q⟩ => ?_) hs rfl))
  subst ev
  cases r1 with
  | cons r rr =>
    cases rr
    cases r
    have fresh : ∀ c ∈ [s1.heap.objs.size + 1, s1.heap.objs.size], FpOk X pins H1 c := fun c hc => by
      have hc : c = s1.heap.objs.size + 1 ∨ c = s1.heap.objs.size := by simpa using hc
      have le : s1.heap.objs.size ≤ c := by rcases hc with z | z <;> omega
      exact I1.fpOk le (I1.hok.fresh le)
    rcases q with ⟨hq, q⟩ | ⟨hq, q⟩
    · obtain ⟨its, rv, pl, _⟩ := I1.list hq
      exact call_enumerate_list pl.isList fun h' h1 h2 _ k => wpAny_pyIter_enum h1 ⟨s1.heap.objs.size + 1, [s1.heap.objs.size + 1, s1.heap.objs.size], _, _, H1, rfl, I1.kept (t' := s1.toks) k, turn_enum b _ _, ⟨⟨.none, h1⟩, h2, Nat.succ_ne_self _⟩, fresh, q⟩
    · obtain ⟨its, rv, pl, _⟩ := I1.tuple hq
      exact call_enumT (begins_tuple b its.toArray) pl fun h' h1 h2 k => wpAny_pyIter_enum h1 ⟨s1.heap.objs.size + 1, [s1.heap.objs.size + 1, s1.heap.objs.size], _, _, H1, rfl, I1.kept (t' := s1.toks) k, turn_enumT b _ _, ⟨⟨.none, h1⟩, ⟨_, h2, rfl, rfl⟩, Nat.succ_ne_self _⟩, fresh, q⟩
theorem it_enumT {G : Ow → Hp → Prop} {xs : List V} {ds : List PyData} (h : ∀ O H, G O H → SqTo O H a xs ∧ AtL K O H xs ds) : ItOk K G (IteT K a) (enumD ds) where
  go i O H g hi := by
    obtain ⟨h1, h2⟩ := h O H g
    exact ⟨xs, _, h1.sq, List.getElem?_eq_getElem (by rw [h2.len]; simpa [enumD] using hi)⟩
  stop i O H g hi := by
    obtain ⟨h1, h2⟩ := h O H g
    exact ⟨xs, h1.sq, by rw [h2.len]; simpa [enumD] using hi⟩
  yld i O H x H' d g hdm hd y := by
    obtain ⟨T, v, e1, hT, e2, y⟩ := y
    subst e1 e2
    obtain ⟨h1, h2⟩ := h O H g
    have y := y xs h1.sq
    obtain ⟨w, w1, w2⟩ := h2.get y
    have hd : (ds.mapIdx fun i d => PyData.tuple [.int (i : Nat), d])[i]? = some d := hd
    rw [List.getElem?_mapIdx, w1] at hd
    cases hd
    exact ⟨.inr ⟨T, _, hT, rfl⟩, at_pair hdm hT (.int _) w2⟩
@[simp] def tEn (t : PTA) : PTI := fun s Q => t s fun ds s' => ∃ d xs, ds = [d] ∧ (d = .list xs ∨ d = .tuple xs) ∧ Q (enumD xs) s'
theorem di_enum {t : PTA} {elts : List Expr} {kk : Nat} {tpos : Pos} (hg : Gl X "enumerate") (hm : X.mg "enumerate" = none) (h : DA X [e] t) (hs : starEach [e] X.env = [(false, eval e X.env)] := by rfl) :
    DI X false (.Tuple elts kk tpos) (.Call (.Name "enumerate" ppos) [e] [] pos) (tEn t) :=
  ⟨PI.weak (pi_en hg hm h.pa hs) fun σ H R ⟨p, O, s, r, q⟩ => ⟨p, O, s, r, h.mono _ _ _ (fun ds s' ⟨d, xs, ed, ex, k⟩ vs O' H' r' kp av => by
      subst ed
      cases av with
      | cons a1 a2 =>
        cases a2
        rcases ex with z | z <;> subst z <;> cases a1
        · rename_i b ys h1 h2
          exact ⟨b, ys, rfl, .inl ⟨h1.sq, k _ _ _ r' kp (it_enum fun O2 H2 g => ⟨(g.1.sqL h1).2, h2.to g.1⟩)⟩⟩
        · rename_i b ys h1 h2
          exact ⟨b, ys, rfl, .inr ⟨h1.sq, k _ _ _ r' kp (it_enumT fun O2 H2 g => ⟨g.1.sqT h1, h2.to g.1⟩)⟩⟩) q⟩,
    fun s Q Q' w q => h.mono _ _ _ (fun ds s' ⟨d, xs, ed, ex, k⟩ => ⟨d, xs, ed, ex, w _ _ k⟩) q⟩
@[simp] def tZp (t : PTA) : PTI := fun s Q => t s fun ds s' => ∃ xs ys, (ds = [.list xs, .list ys] ∨ ds = [.tuple xs, .tuple ys]) ∧ Q (zipD xs ys) s'
theorem di_zip {t : PTA} {elts : List Expr} {kk : Nat} {tpos : Pos} (hg : Gl X "zip") (hm : X.mg "zip" = none) (h : DA X [e, ea] t) (hs : starEach [e, ea] X.env = (false, eval e X.env) :: starEach [ea] X.env := by rfl) (hpl : (backTo pos (starEach [ea] X.env)).any (·.1) = false := by rfl) :
    DI X false (.Tuple elts kk tpos) (.Call (.Name "zip" ppos) [e, ea] [] pos) (tZp t) :=
  ⟨PI.weak (RZ.pi_zipA hg hm h.pa hs hpl) fun σ H R ⟨p, O, s, r, q⟩ => ⟨p, O, s, r, h.mono _ _ _ (fun ds s' ⟨xs, ys, ed, k⟩ vs O' H' r' kp av => by
      rcases ed with ed | ed
      · subst ed
        cases av with
        | cons a1 a2 =>
          cases a2 with
          | cons a2 a3 =>
            cases a3; cases a1; cases a2
            rename_i b xs h1 h2 c ys h3 h4
            exact ⟨_, _, _, _, rfl, .inl ⟨h1.sq, h3.sq, k _ _ _ r' kp (it_zipL fun O2 H2 g => ⟨⟨(g.1.sqL h1).2, h2.to g.1⟩, (g.1.sqL h3).2, h4.to g.1⟩)⟩⟩
      · subst ed
        cases av with
        | cons a1 a2 =>
          cases a2 with
          | cons a2 a3 =>
            cases a3; cases a1; cases a2
            rename_i b xs h1 h2 c ys h3 h4
            exact ⟨_, _, _, _, rfl, .inr ⟨h1.sq, h3.sq, k _ _ _ r' kp (it_zipT fun O2 H2 g => ⟨⟨g.1.sqT h1, h2.to g.1⟩, g.1.sqT h3, h4.to g.1⟩)⟩⟩) q⟩,
    fun s Q Q' w q => h.mono _ _ _ (fun ds s' ⟨xs, ys, ed, k⟩ => ⟨xs, ys, ed, w _ _ k⟩) q⟩
end
end PD
end
section
set_option Elab.async false
set_option linter.all false
set_option maxRecDepth 100000
set_option maxHeartbeats 4000000
/-! PD13: list comprehensions. -/
namespace PD
open PySem PySem.Spec PyProof.Rows L2

section
variable {K : PySem.W.Frag} {X : Cx} {p : Pm} {O O' : Ow} {σ σ' : L2.St} {H H' : Hp} {s s' : PSt} {v : V} {d : PyData} {a : Addr} {e ea eb tg : Expr} {es : List Expr} {pos ppos : Pos}

theorem wipe_in {i : Nat} : ∀ {vs : List Nat}, i ∈ vs → (L2.wipe σ vs)[i]? = σ[i]?.map fun _ => none
  | w :: ws, h => by
    show ((L2.wipe σ ws).set w none)[i]? = _
    by_cases z : w = i
    · subst z
      rw [List.getElem?_set]
      simp only [if_true]
      rw [L2.wipe_length]
      by_cases q : w < σ.length
      · rw [if_pos q, List.getElem?_eq_getElem q]; rfl
      · rw [if_neg q, List.getElem?_eq_none (by omega)]; rfl
    · rw [List.getElem?_set_ne z]
      exact wipe_in ((List.mem_cons.mp h).resolve_left fun y => z y.symm)
theorem wipe_idem (vs : List Nat) : L2.wipe (L2.wipe σ vs) vs = L2.wipe σ vs := by
  apply List.ext_getElem?
  intro i
  by_cases h : i ∈ vs
  · rw [wipe_in h, wipe_in h]
    cases σ[i]? <;> rfl
  · rw [wipe_get h]
/-- an owned place that no slot knows, with another content -/
theorem Rl.putD {D : Addr} {o : HO} (R : Rl K p O σ H s) (hO : O D) (h0 : p.H0 D = none) (hh : p.ha ≠ some D) (hm : ∀ (i : Nat) (d' : PyData), s.G[i]? = some (.m d') → σ[i]? ≠ some (some (.ref D))) (ho : NT (some o) := by exact True.intro) :
    Rl K p O σ (upd H D o) s ∧ Kp O H O (upd H D o) := by
  have k : Kp O H O (upd H D o) := ⟨fun a u e n => by rw [upd_ne fun z => n (by rw [z]; exact hO)]; exact e, fun _ n _ => n⟩
  refine ⟨⟨R.len, fun i S e => ?_, R.inj, fun a e => ?_, fun a u e n => ?_, fun a z => ?_, R.o0, R.od, R.ob⟩, k⟩
  · have q := R.sl i S e
    cases S with
    | no => trivial
    | v d => obtain ⟨y, e1, e2⟩ := q; exact ⟨y, e1, e2.to k⟩
    | m d =>
      obtain ⟨b, e1, e2, e3, e4, e5⟩ := q
      exact ⟨b, e1, e2, e3, e4, e5.to k (upd_ne fun z => hm i d e (by rw [e1, z]))⟩
    | b d =>
      obtain ⟨b, e1, e2, e3, e4⟩ := q
      exact ⟨b, e1, e2, e3, e4.to k (upd_ne fun z => e2 (by rw [z]; exact h0))⟩
    | h => exact q
  · obtain ⟨e1, xs, e2, e3⟩ := R.hand a e
    exact ⟨e1, xs, by rw [upd_ne fun z => hh (by rw [← z]; exact e)]; exact e2, e3.to k⟩
  · rw [upd_ne fun z => by rw [z, h0] at e; cases e]
    exact R.frm a u e n
  · by_cases z' : a = D
    · rw [z', upd_same]; exact ho
    · rw [upd_ne z']; exact R.dom a z
/-- a clause's tests -/
structure DTs (X : Cx) (ifs : List Expr) (t : PTT) : Prop where
  pt : PTs X ifs (liftT X.K t)
  mono : MonoT t
@[simp] def tYs : PTT := fun s Q => Q true s
theorem dts_nil : DTs X [] tYs := ⟨⟨fun pins sh σ H Q I ⟨p, O, s, R, q⟩ => pts_nil.run pins sh σ H Q I (q O H R .refl)⟩, fun s Q Q' w q => w _ _ q⟩
theorem dts_one {t : PTT} (h : DT X e t) : DTs X [e] t := ⟨pts_one h.pt, h.mono⟩
/-- the turns of a comprehension -/
def cRun (g : PTG) (tt : PTT) (te : PTE) (vs : List Nat) (G : List Sl) : List PyData → List PyData → List PyData → (List PyData → List PyData → Prop) → Prop
  | [], out, hd, Q => Q out hd
  | d :: ds, out, hd, Q => g d ⟨blkG G vs, hd⟩ fun s1 => tt s1 fun b s2 => if b = true then te s2 fun y s3 => cRun g tt te vs G ds (out ++ [y]) s3.hd Q else cRun g tt te vs G ds out s2.hd Q
theorem cRun_mono {g : PTG} {tt : PTT} {te : PTE} {vs : List Nat} {G : List Sl} (hg : ∀ d s Q Q', (∀ s', Q s' → Q' s') → g d s Q → g d s Q') (ht : MonoT tt) (he : Mono te) {Q Q' : List PyData → List PyData → Prop} (w : ∀ o h, Q o h → Q' o h) :
    ∀ (ds out hd : List PyData), cRun g tt te vs G ds out hd Q → cRun g tt te vs G ds out hd Q'
  | [], _, _, q => w _ _ q
  | d :: ds, out, hd, q => hg _ _ _ _ (fun s1 => ht _ _ _ fun b s2 q => by
      cases b with
      | true => exact he _ _ _ (fun y s3 => cRun_mono hg ht he w ds _ _) q
      | false => exact cRun_mono hg ht he w ds _ _ q) q
@[simp] def tComp (ti : PTI) (g : PTG) (tt : PTT) (te : PTE) (vs : List Nat) : PTE := fun s Q => ti s fun items s1 => items.length ≤ sizeLine ∧ cRun g tt te vs s1.G items [] s1.hd fun out hd => Q (.list out) { s1 with hd := hd }
/-- in every block of the scope -/
abbrev Blk (X : Cx) (scope : Scope) (P : Cx → Prop) : Prop := ∀ (s : Shared) (H : Hp) (C : Addr) (cl : List (Str × Addr)) (fp : List Addr), P (X.blk s H scope (compEnvC scope cl C X.env) fp)
variable {iter elt : Expr} {ifs : List Expr} {scope : Scope} {own : List (Str × Nat)}
theorem lc_read {ti : PTI} {g : PTG} {tt : PTT} {te : PTE} {vs ws : List Nat} {Q : VK} (hi : ∀ s Q Q', (∀ d s', Q d s' → Q' d s') → ti s Q → ti s Q') (hg : ∀ d s Q Q', (∀ s', Q s' → Q' s') → g d s Q → g d s Q') (ht : MonoT tt) (he : Mono te)
    (hw : ∀ w ∈ ws, w ∈ vs) (h : liftF K (tComp ti g tt te vs) σ H Q) : tLc (liftI K true ti) (liftG K ws g) (liftT K tt) (lift K te) vs σ H Q := by
  obtain ⟨p, O, s, R, q⟩ := h
  refine ⟨p, O, s, R, hi _ _ _ (fun items s1 ⟨hsz, q1⟩ J O1 H1 R1 k1 it D hD => ?_) q⟩
  obtain ⟨f0, fh, fm⟩ := R1.fresh hD
  generalize hF : (fun out hd => ∀ a O' H', Rl K p O' σ H' { s1 with hd := hd } → Kp O H O' H' → Lone K p O' σ H' { s1 with hd := hd } a (.list out) → Q (.ref a) H' : List PyData → List PyData → Prop) = F at q1
  let S : Nat → Hp → Prop := fun i H => ∃ O2 out acc hd, Rl K p O2 σ H { s1 with hd := hd } ∧ Stand true p O1 H1 O2 H ∧ O2 D ∧ H D = some (.lst acc) ∧ AtL K O2 H acc out ∧ out.length ≤ i ∧ cRun g tt te vs s1.G (items.drop i) out hd F
  refine ⟨fun i m H => m = items.length - i ∧ i ≤ items.length ∧ S i H, ⟨items.length, by simp, Nat.zero_le _, O1.with D, [], [], s1.hd, R1.newOwn hD, ⟨Kp.newOwn hD, fun _ a o e n => ?_⟩, .inr rfl, upd_same, .nil, Nat.le_refl _, q1⟩, ?_⟩
  · rw [upd_ne fun z => by rw [z, hD] at e; cases e]; exact e
  · rintro i m H2 ⟨rfl, hle, O2, out, acc, hd, R2, st, oD, eD, al, ol, c⟩
    by_cases hlt : i < items.length
    · refine .inr ⟨it.go i O2 H2 st hlt, S (i + 1), fun H' w => ⟨items.length - (i + 1), by omega, rfl, hlt, w⟩, fun x H3 y => ?_⟩
      obtain ⟨alt, ax⟩ := it.yld i O2 H2 x H3 items[i] st R2.dom (List.getElem?_eq_getElem hlt) y
      have step : Rl K p O2 σ H3 { s1 with hd := hd } ∧ Kp O2 H2 O2 H3 ∧ ∀ a o, H2 a = some o → H3 a = some o := by
        rcases alt with z | ⟨b, o, hb, z⟩
        · subst z; exact ⟨R2, .refl, fun _ _ h => h⟩
        · subst z
          exact ⟨R2.new hb, Kp.new hb, fun a u e => by rw [upd_ne fun z => by rw [z, hb] at e; cases e]; exact e⟩
      obtain ⟨R3, k3, st3⟩ := step
      rw [List.drop_eq_getElem_cons hlt] at c
      have RB := R3.into vs
      -- behind the turn
      have fin : ∀ {O4 σ4 H4} {s4 : PSt}, Rl K ⟨p.ha, H3, O2⟩ O4 σ4 H4 s4 → Kp O2 H3 O4 H4 → Rl K p O4 σ H4 { s1 with hd := s4.hd } ∧ Stand true p O1 H1 O4 H4 ∧ O4 D ∧ H4 D = some (.lst acc) ∧ AtL K O4 H4 acc out := fun {O4 σ4 H4 s4} R4 k4 =>
        ⟨R3.back R4 k4, ⟨st.1.trans (k3.trans k4), fun _ a o e n => R4.frm a o (st3 a o (st.2 rfl a o e n)) n⟩, R4.o0 D oD, R4.frm D _ (st3 D _ eD) fh, al.to (k3.trans k4)⟩
      refine ⟨⟨p.ha, H3, O2⟩, O2, _, items[i], RB, ax, hg _ _ _ _ (fun sA qA σA RA uA => ⟨by rw [uA vs hw, wipe_idem], ⟨p.ha, H3, O2⟩, O2, sA, RA, ht _ _ _ (fun b sB qB O4 H4 R4 k4 => ?_) qA⟩) c⟩
      cases b with
      | true =>
        refine ⟨⟨p.ha, H3, O2⟩, O4, sB, R4, he _ _ _ (fun y sC qC u O5 H5 R5 k5 au => ?_) qB⟩
        obtain ⟨g1, g2, g3, g4, g5⟩ := fin R5 (k4.trans k5)
        obtain ⟨R6, k6⟩ := g1.putD (o := .lst (acc ++ [u])) g3 f0 fh fm
        refine ⟨acc, g4, by rw [g5.len]; omega, O5, out ++ [y], acc ++ [u], sC.hd, R6, ⟨g2.1.trans k6, fun _ a o e n => ?_⟩, g3, upd_same, (g5.to k6).append (.cons (au.to k6) .nil), by rw [List.length_append]; simp; exact ol, qC⟩
        rw [upd_ne fun z => by rw [z, hD] at e; cases e]
        exact g2.2 rfl a o e n
      | false =>
        obtain ⟨g1, g2, g3, g4, g5⟩ := fin R4 k4
        exact ⟨O4, out, acc, sB.hd, g1, g2, g3, g4, g5, Nat.le_succ_of_le ol, qB⟩
    · have ei : i = items.length := by omega
      subst ei
      rw [List.drop_length] at c
      refine .inl ⟨it.stop _ O2 H2 st (Nat.le_refl _), ?_⟩
      subst hF
      exact c D O2 H2 R2 (k1.trans st.1) ⟨oD, f0, fh, .lst eD al, fm⟩
theorem mono_comp {ti : PTI} {g : PTG} {tt : PTT} {te : PTE} {vs : List Nat} (hi : ∀ s Q Q', (∀ d s', Q d s' → Q' d s') → ti s Q → ti s Q') (hg : ∀ d s Q Q', (∀ s', Q s' → Q' s') → g d s Q → g d s Q') (ht : MonoT tt) (he : Mono te) : Mono (tComp ti g tt te vs) :=
  fun s Q Q' w q => hi _ _ _ (fun items s1 ⟨z, q⟩ => ⟨z, cRun_mono hg ht he (fun o h => w _ _) _ _ _ q⟩) q
theorem df_lc {ti : PTI} {g : PTG} {tt : PTT} {te : PTE} {ws : List Nat} (hc : X.calm = true) (hN : X.N.Nodup) (hi : DI X true tg iter ti) (ok : BlkOk X.N X.env.scope scope own)
    (hg : Blk X scope fun Y => DG Y tg ws g) (ht : Blk X scope fun Y => DTs Y ifs tt) (he : Blk X scope fun Y => DE Y elt te) (hw : ∀ w ∈ ws, w ∈ own.map (·.2)) (hs : ∀ x, foldedSetIterable iter X.env x = pure x := by intro _; rfl) :
    DF X (.ListComp elt [⟨tg, iter, ifs, 0⟩] scope pos) (tComp ti g tt te (own.map (·.2))) := by
  have h0 := hg X.s_0 X.H_0 0 [] []
  have h1 := ht X.s_0 X.H_0 0 [] []
  have h2 := he X.s_0 X.H_0 0 [] []
  exact ⟨PE.weak (pe_lc hc hN hi.pi ok (fun s H C cl fp => (hg s H C cl fp).pg) (fun s H C cl fp => (ht s H C cl fp).pt) (fun s H C cl fp => (he s H C cl fp).pe) hs) fun σ H Q q => lc_read hi.mono h0.mono h1.mono h2.mono hw q, mono_comp hi.mono h0.mono h1.mono h2.mono⟩
end
end PD
end
section
set_option Elab.async false
set_option linter.all false
set_option maxRecDepth 100000
set_option maxHeartbeats 4000000
/-! PD14: statements. -/
namespace PD
open PySem PySem.Spec PyProof.Rows L2

/-- a value: fr: new and held by nothing -/
def Val (K : PySem.W.Frag) (p : Pm) (O : Ow) (σ : L2.St) (H : Hp) (s : PSt) (fr : Bool) (v : V) (d : PyData) : Prop := if fr = true then ∃ a, v = .ref a ∧ Lone K p O σ H s a d else At K O H v d
def liftX (K : PySem.W.Frag) (fr : Bool) (t : PTE) : TE := fun σ H QV => ∃ p O s, Rl K p O σ H s ∧ t s fun d s' => ∀ v O' H', Rl K p O' σ H' s' → Kp O H O' H' → Val K p O' σ H' s' fr v d → QV v H'
structure DX (X : Cx) (fr : Bool) (e : Expr) (t : PTE) : Prop where
  pe : PE X e (liftX X.K fr t)
  mono : Mono t
@[simp] def Sl.of (fr : Bool) (d : PyData) : Sl := if fr = true then .m d else .v d

/-- how a body ends -/
structure PEnds where
  nx : PSt → Prop
  rt : Bool → PyData → PSt → Prop
  bk : PSt → Prop
  ct : PSt → Prop
structure PEnds.Le (E E' : PEnds) : Prop where
  nx : ∀ s, E.nx s → E'.nx s
  rt : ∀ b d s, E.rt b d s → E'.rt b d s
  bk : ∀ s, E.bk s → E'.bk s
  ct : ∀ s, E.ct s → E'.ct s
abbrev PTS := PEnds → PSt → Prop
def MonoS (t : PTS) : Prop := ∀ s E E', PEnds.Le E E' → t E s → t E' s
def goes (K : PySem.W.Frag) (p : Pm) (O : Ow) (H : Hp) (F : L2.St → Hp → Prop) : PSt → Prop := fun s' => ∀ σ' O' H', Rl K p O' σ' H' s' → Kp O H O' H' → F σ' H'
def endsOf (K : PySem.W.Frag) (p : Pm) (O : Ow) (H : Hp) (D : Ends) : PEnds :=
  ⟨goes K p O H D.nx, fun fr d s' => ∀ v σ' O' H', Rl K p O' σ' H' s' → Kp O H O' H' → Val K p O' σ' H' s' fr v d → D.rt v H', goes K p O H D.bk, goes K p O H D.ct⟩
def liftS (K : PySem.W.Frag) (t : PTS) : TS := fun D σ H => ∃ p O s, Rl K p O σ H s ∧ t (endsOf K p O H D) s
structure DS (X : Cx) (st : Stmt) (t : PTS) : Prop where
  ps : PS X st (liftS X.K t)
  mono : MonoS t
structure DSs (X : Cx) (st : List Stmt) (t : PTS) : Prop where
  ps : PSs X st (liftS X.K t)
  mono : MonoS t

section
variable {K : PySem.W.Frag} {X : Cx} {p : Pm} {O O' : Ow} {σ σ' : L2.St} {H H' : Hp} {s s' : PSt} {v : V} {d : PyData} {a : Addr} {e ea eb tg : Expr} {es : List Expr} {pos ppos : Pos} {st : Stmt} {sts : List Stmt} {t u : PTS} {te ta tb : PTE} {fr : Bool}
/-- the ends of a loop's turn -/
@[simp] def PEnds.lp (E : PEnds) (N : PSt → Prop) : PEnds := ⟨N, E.rt, E.nx, N⟩
theorem PEnds.Le.lp {E E' : PEnds} {N N' : PSt → Prop} (w : PEnds.Le E E') (k : ∀ s, N s → N' s) : PEnds.Le (E.lp N) (E'.lp N') := ⟨k, w.rt, w.nx, k⟩
theorem PEnds.Le.refl {E : PEnds} : PEnds.Le E E := ⟨fun _ h => h, fun _ _ _ h => h, fun _ h => h, fun _ h => h⟩
theorem DE.x (h : DE X e te) : DX X false e te := ⟨PE.weak h.pe fun σ H Q ⟨p, O, s, r, q⟩ => ⟨p, O, s, r, h.mono _ _ _ (fun d s' k v O' H' R' k' a => k v O' H' R' k' a) q⟩, h.mono⟩
theorem DF.x (h : DF X e te) : DX X true e te := ⟨PE.weak h.pe fun σ H Q ⟨p, O, s, r, q⟩ => ⟨p, O, s, r, h.mono _ _ _ (fun d s' k a O' H' R' k' l => k _ O' H' R' k' ⟨a, rfl, l⟩) q⟩, h.mono⟩
theorem goes_to {F : L2.St → Hp → Prop} (k : Kp O H O' H') (h : goes K p O H F s) : goes K p O' H' F s := fun σ' O2 H2 R k2 => h σ' O2 H2 R (k.trans k2)
theorem endsOf_to {D : Ends} (k : Kp O H O' H') : PEnds.Le (endsOf K p O H D) (endsOf K p O' H' D) :=
  ⟨fun _ h => goes_to k h, fun _ _ _ h v σ' O2 H2 R k2 => h v σ' O2 H2 R (k.trans k2), fun _ h => goes_to k h, fun _ h => goes_to k h⟩
theorem PS.weak {t t' : TS} (h : PS X st t) (w : ∀ D σ H, t' D σ H → t D σ H) : PS X st t' := ⟨fun pins s σ H D I q => h.run pins s σ H D I (w _ _ _ q)⟩
theorem PSs.weak {t t' : TS} (h : PSs X sts t) (w : ∀ D σ H, t' D σ H → t D σ H) : PSs X sts t' := ⟨fun pins s σ H D I q => h.run pins s σ H D I (w _ _ _ q)⟩

/-! ### stores in slots -/
theorem Rl.setx {i : Nat} (R : Rl K p O σ H s) (h : Val K p O σ H s fr v d) : Rl K p O (σ.set i (some v)) H { s with G := s.G.set i (Sl.of fr d) } := by
  cases fr with
  | false => exact R.setv h
  | true =>
    obtain ⟨a, rfl, l1, l2, l3, l4, l5⟩ := h
    show Rl K p O (σ.set i (some (.ref a))) H { s with G := s.G.set i (.m d) }
    refine ⟨by rw [List.length_set, List.length_set]; exact R.len, fun j S e => ?_, fun j l d1 d2 c q1 q2 z1 z2 => ?_, R.hand, R.frm, R.dom, R.o0, R.od, R.ob⟩
    · by_cases hj : i = j
      · subst hj
        have e : (s.G.set i (.m d))[i]? = some S := e
        have hi : i < s.G.length := by
          by_cases q : i < s.G.length
          · exact q
          · rw [List.getElem?_eq_none (by rw [List.length_set]; omega)] at e; cases e
        rw [List.getElem?_set_self hi] at e; cases e
        exact ⟨a, by rw [List.getElem?_set_self (by rw [← R.len]; exact hi)], l1, l2, l3, l4⟩
      · have e : (s.G.set i (.m d))[j]? = some S := e
        rw [List.getElem?_set_ne hj] at e ⊢
        exact R.sl j S e
    · have get : ∀ (j : Nat) (d1 : PyData), (s.G.set i (.m d))[j]? = some (.m d1) → (σ.set i (some (.ref a)))[j]? = some (some (.ref c)) → (j = i ∧ c = a) ∨ (i ≠ j ∧ s.G[j]? = some (.m d1) ∧ σ[j]? = some (some (.ref c))) := fun j d1 q z => by
        by_cases hj : i = j
        · subst hj
          refine .inl ⟨rfl, ?_⟩
          rw [List.getElem?_set] at z
          simp only [if_true] at z
          split at z
          · cases z; rfl
          · cases z
        · rw [List.getElem?_set_ne hj] at q z; exact .inr ⟨hj, q, z⟩
      rcases get j d1 q1 z1 with ⟨x1, y1⟩ | ⟨x1, y1, w1⟩
      · rcases get l d2 q2 z2 with ⟨x2, y2⟩ | ⟨x2, y2, w2⟩
        · rw [x1, x2]
        · subst y1; exact absurd w2 (l5 l d2 y2)
      · rcases get l d2 q2 z2 with ⟨x2, y2⟩ | ⟨x2, y2, w2⟩
        · subst y2; exact absurd w1 (l5 j d1 y1)
        · exact R.inj j l d1 d2 c y1 y2 w1 w2

/-! ### blocks -/
@[simp] def tNx : PTS := fun E s => E.nx s
@[simp] def tSq (t u : PTS) : PTS := fun E s => t { E with nx := u E } s
theorem dss_nil : DSs X [] tNx := ⟨PSs.weak pss_nil fun D σ H ⟨p, O, s, R, q⟩ => q σ O H R .refl, fun s E E' w q => w.nx _ q⟩
theorem mono_sq (h : MonoS t) (k : MonoS u) : MonoS (tSq t u) := fun s E E' w q => h _ { E with nx := u E } { E' with nx := u E' } ⟨fun s' => k s' _ _ w, w.rt, w.bk, w.ct⟩ q
theorem dss_cons (h : DS X st t) (k : DSs X sts u) : DSs X (st :: sts) (tSq t u) :=
  ⟨PSs.weak (pss_cons h.ps k.ps) fun D σ H ⟨p, O, s, R, q⟩ => ⟨p, O, s, R, h.mono _ { endsOf X.K p O H D with nx := u (endsOf X.K p O H D) } _ ⟨fun s' q σ' O' H' R' k' => ⟨p, O', s', R', k.mono _ _ _ (endsOf_to k') q⟩, fun _ _ _ h => h, fun _ h => h, fun _ h => h⟩ q⟩, mono_sq h.mono k.mono⟩
theorem dss_never : DSs X sts fun _ _ => False := ⟨PSs.weak pss_never fun D σ H ⟨p, O, s, R, q⟩ => q, fun _ _ _ _ q => q⟩
theorem ds_never : DS X st fun _ _ => False := ⟨PS.weak ps_never fun D σ H ⟨p, O, s, R, q⟩ => q, fun _ _ _ _ q => q⟩
theorem ds_pass : DS X (.Pass pos) tNx := ⟨PS.weak ps_pass fun D σ H ⟨p, O, s, R, q⟩ => q σ O H R .refl, fun s E E' w q => w.nx _ q⟩
theorem ds_break : DS X (.Break pos) fun E s => E.bk s := ⟨PS.weak ps_break fun D σ H ⟨p, O, s, R, q⟩ => q σ O H R .refl, fun s E E' w q => w.bk _ q⟩
theorem ds_continue : DS X (.Continue pos) fun E s => E.ct s := ⟨PS.weak ps_continue fun D σ H ⟨p, O, s, R, q⟩ => q σ O H R .refl, fun s E E' w q => w.ct _ q⟩
/-! ### small statements -/
@[simp] def tEx (te : PTE) : PTS := fun E s => te s fun _ s' => E.nx s'
theorem ds_expr (h : DE X e te) (hs : swapsWith e none pos.line X.env = pure false := by rfl) : DS X (.Expr e pos) (tEx te) :=
  ⟨PS.weak (ps_expr h.pe hs) fun D σ H ⟨p, O, s, R, q⟩ => ⟨p, O, s, R, h.mono _ _ _ (fun d s' q v O' H' R' k' _ => q σ O' H' R' k') q⟩, fun s E E' w q => h.mono _ _ _ (fun d s' => w.nx _) q⟩
@[simp] def tRt (fr : Bool) (te : PTE) : PTS := fun E s => te s fun d s' => E.rt fr d s'
theorem ds_ret (h : DX X fr e te) : DS X (.Return (some e) pos) (tRt fr te) :=
  ⟨PS.weak (ps_ret h.pe) fun D σ H ⟨p, O, s, R, q⟩ => ⟨p, O, s, R, h.mono _ _ _ (fun d s' q v O' H' R' k' a => q v σ O' H' R' k' a) q⟩, fun s E E' w q => h.mono _ _ _ (fun d s' => w.rt _ _ _) q⟩
/-- return of a slot, whichever it is -/
@[simp] def tRtV (i : Nat) : PTS := fun E s => match s.G[i]? with
  | some (.v d) => E.rt false d s
  | some (.m d) => E.rt true d { s with G := s.G.set i .no }
  | _ => False
theorem Rl.drop {i : Nat} (R : Rl K p O σ H s) : Rl K p O σ H { s with G := s.G.set i .no } := by
  have get : ∀ (j : Nat) (S : Sl), (s.G.set i .no)[j]? = some S → S = .no ∨ (i ≠ j ∧ s.G[j]? = some S) := fun j S q => by
    by_cases hj : i = j
    · subst hj
      rw [List.getElem?_set] at q
      simp only [if_true] at q
      split at q
      · injection q with q; exact .inl q.symm
      · cases q
    · rw [List.getElem?_set_ne hj] at q; exact .inr ⟨hj, q⟩
  refine ⟨by rw [List.length_set]; exact R.len, fun j S e => ?_, fun j l d1 d2 c q1 q2 => ?_, R.hand, R.frm, R.dom, R.o0, R.od, R.ob⟩
  · rcases get j S e with z | ⟨_, z⟩
    · subst z; trivial
    · exact R.sl j S z
  · rcases get j _ q1 with z | ⟨_, z⟩
    · cases z
    · rcases get l _ q2 with y | ⟨_, y⟩
      · cases y
      · exact R.inj j l d1 d2 c z y
theorem Rl.move {i : Nat} (R : Rl K p O σ H s) (g : s.G[i]? = some (.m d)) : ∃ a, σ[i]? = some (some (.ref a)) ∧ Lone K p O σ H { s with G := s.G.set i .no } a d := by
  obtain ⟨a, e1, e2, e3, e4, e5⟩ := R.sl i _ g
  refine ⟨a, e1, e2, e3, e4, e5, fun j d' q z => ?_⟩
  have hi : i < s.G.length := (List.getElem?_eq_some_iff.mp g).1
  by_cases hj : i = j
  · subst hj
    have q : (s.G.set i .no)[i]? = some (.m d') := q
    rw [List.getElem?_set_self hi] at q; cases q
  · have q : (s.G.set i .no)[j]? = some (.m d') := q
    rw [List.getElem?_set_ne hj] at q
    exact hj (R.inj i j d d' a g q e1 z)
theorem ds_retV {i : Nat} (h : PE X e (tVar i)) : DS X (.Return (some e) pos) (tRtV i) := by
  refine ⟨PS.weak (ps_ret h) fun D σ H ⟨p, O, s, R, q⟩ => ?_, fun s E E' w q => ?_⟩
  · unfold tRtV at q
    split at q
    · rename_i d g
      obtain ⟨y, e1, e2⟩ := R.sl i _ g
      exact ⟨y, e1, q y σ O H R .refl e2⟩
    · rename_i d g
      obtain ⟨a, e1, l⟩ := R.move g
      exact ⟨_, e1, q _ σ O H R.drop .refl ⟨a, rfl, l⟩⟩
    · exact q.elim
  · unfold tRtV at q ⊢
    split at q
    · exact w.rt _ _ _ q
    · exact w.rt _ _ _ q
    · exact q.elim
@[simp] def tRn : PTS := fun E s => E.rt false .none s
theorem ds_retN : DS X (.Return none pos) tRn := ⟨PS.weak ps_retN fun D σ H ⟨p, O, s, R, q⟩ => q .non σ O H R .refl .non, fun s E E' w q => w.rt _ _ _ q⟩
/-- name = e -/
@[simp] def tAs (fr : Bool) (te : PTE) (i : Nat) : PTS := fun E s => te s fun d s' => E.nx { s' with G := s'.G.set i (Sl.of fr d) }
theorem mono_as {i : Nat} (h : Mono te) : MonoS (tAs fr te i) := fun s E E' w q => h _ _ _ (fun d s' => w.nx _) q
theorem as_read {i : Nat} {D : Ends} (h : Mono te) (q : liftS K (tAs fr te i) D σ H) : tAsg (liftX K fr te) (gName i) D σ H := by
  obtain ⟨p, O, s, R, q⟩ := q
  exact ⟨p, O, s, R, h _ _ _ (fun d s' q v O' H' R' k' a => q _ O' H' (R'.setx a) k') q⟩
theorem ds_set {i : Nat} {x : Str} {pos' : Pos} (hN : X.N.Nodup) (hi : X.N[i]? = some x) (h : DX X fr e te) (hx : Loc X.env.scope x := by exact .inl rfl) (hs : swapsWith e (some (.Name x pos')) pos.line X.env = pure false := by rfl) (hf : X.fn x = true ∨ X.env.scope.names.lookup x = some .local := by first | exact .inl rfl | exact .inr rfl | assumption) :
    DS X (.Assign [.Name x pos'] e pos) (tAs fr te i) := ⟨PS.weak (ps_set hN hi hx h.pe hs hf) fun D σ H q => as_read h.mono q, mono_as h.mono⟩
theorem ds_setLc {i : Nat} {y : Str} {py spos : Pos} {iter elt : Expr} {ifs : List Expr} {scope : Scope} {own : List (Str × Nat)} {ti : PTI} {g : PTG} {tt : PTT} {ws : List Nat} (hc : X.calm = true) (hN : X.N.Nodup) (hy : X.N[i]? = some y) (hyl : X.env.scope.names.lookup y = some .local)
    (hsw : swapsWith (.ListComp elt [⟨tg, iter, ifs, 0⟩] scope pos) (some (.Name y py)) spos.line X.env = pure true) (hi : DI X true tg iter ti) (ok : BlkOk X.N X.env.scope scope own)
    (hg : Blk X scope fun Y => DG Y tg ws g) (ht : Blk X scope fun Y => DTs Y ifs tt) (he : Blk X scope fun Y => DE Y elt te) (hw : ∀ w ∈ ws, w ∈ own.map (·.2)) (hs : ∀ x, foldedSetIterable iter X.env x = pure x := by intro _; rfl) :
    DS X (.Assign [.Name y py] (.ListComp elt [⟨tg, iter, ifs, 0⟩] scope pos) spos) (tAs true (tComp ti g tt te (own.map (·.2))) i) := by
  have h0 := hg X.s_0 X.H_0 0 [] []
  have h1 := ht X.s_0 X.H_0 0 [] []
  have h2 := he X.s_0 X.H_0 0 [] []
  have hm := mono_comp (vs := own.map (·.2)) hi.mono h0.mono h1.mono h2.mono
  refine ⟨PS.weak (ps_setLc (g := liftG X.K ws g) (tt := liftT X.K tt) (te := lift X.K te) hc hN hy hyl hsw hi.pi ok (fun s H C cl fp => (hg s H C cl fp).pg) (fun s H C cl fp => (ht s H C cl fp).pt) (fun s H C cl fp => (he s H C cl fp).pe) hs) fun D σ H q => ?_, mono_as hm⟩
  refine lc_read hi.mono h0.mono h1.mono h2.mono hw ?_
  obtain ⟨p, O, s, R, q⟩ := q
  exact ⟨p, O, s, R, hm _ _ _ (fun d s' q a O' H' R' k' l => q _ O' H' (R'.setx (fr := true) ⟨a, rfl, l⟩) k') q⟩
/-- target = e -/
@[simp] def tUp (te : PTE) (g : PTG) : PTS := fun E s => te s fun d s' => g d s' E.nx
theorem ds_unp {ws : List Nat} {g : PTG} (h : DE X e te) (hg : DG X tg ws g) (hs : swapsWithSole [tg] e pos.line X.env = pure false := by rfl) (hw : swappedStores [tg] e X.env = pure none := by rfl)
    (h1 : (assignEach [tg] X.env).map (·.2) = [assign tg X.env] := by rfl) : DS X (.Assign [tg] e pos) (tUp te g) :=
  ⟨PS.weak (ps_asg h.pe hg.pg hs hw h1) fun D σ H ⟨p, O, s, R, q⟩ => ⟨p, O, s, R, h.mono _ _ _ (fun d s' q v O' H' R' k' a => ⟨p, O', s', d, R', a, hg.mono _ _ _ _ (fun s2 q σ2 R2 _ => q σ2 O' H' R2 k') q⟩) q⟩,
    fun s E E' w q => h.mono _ _ _ (fun d s' => hg.mono _ _ _ _ w.nx) q⟩

/-! ### if, while, for -/
@[simp] def tIfc (c : PTT) (t u : PTS) : PTS := fun E s => c s fun b s' => if b = true then t E s' else u E s'
theorem ds_if {c : Expr} {p1 q1 : List Stmt} {tc : PTT} (hc : DT X c tc) (h : DSs X p1 t) (k : DSs X q1 u) : DS X (.If c p1 q1 pos) (tIfc tc t u) := by
  refine ⟨PS.weak (ps_if hc.pt h.ps k.ps) fun D σ H ⟨p, O, s, R, q⟩ => ⟨p, O, s, R, hc.mono _ _ _ (fun b s' q O' H' R' k' => ?_) q⟩, fun s E E' w q => hc.mono _ _ _ (fun b s' q => ?_) q⟩
  · cases b with
    | true => exact ⟨p, O', s', R', h.mono _ _ _ (endsOf_to k') q⟩
    | false => exact ⟨p, O', s', R', k.mono _ _ _ (endsOf_to k') q⟩
  · cases b with
    | true => exact h.mono _ _ _ w q
    | false => exact k.mono _ _ _ w q
def tWh (c : PTT) (tb : PTS) : PTS := fun E s => ∃ W : Nat → PSt → Prop, (∃ m, W m s) ∧ ∀ m s, W m s → c s fun b s1 => if b = true then tb (E.lp fun s' => ∃ m', m' < m ∧ W m' s') s1 else E.nx s1
theorem ds_while {c : Expr} {tc : PTT} (hp : PassesOwn (model X.prog X.w) X.A X.env X.xe) (hc : DT X c tc) (h : DSs X sts t) : DS X (.While c sts [] pos) (tWh tc t) := by
  refine ⟨PS.weak (ps_while hp hc.pt h.ps) fun D σ H ⟨p, O, s, R, W, ⟨m0, w0⟩, turn⟩ => ?_, fun s E E' w ⟨W, w0, turn⟩ => ⟨W, w0, fun m s1 w1 => hc.mono _ _ _ (fun b s2 q => ?_) (turn m s1 w1)⟩⟩
  · refine ⟨fun m σ1 H1 => ∃ O1 s1, Rl X.K p O1 σ1 H1 s1 ∧ Kp O H O1 H1 ∧ W m s1, ⟨m0, O, s, R, .refl, w0⟩, ?_⟩
    rintro m σ1 H1 ⟨O1, s1, R1, k1, w1⟩
    refine ⟨p, O1, s1, R1, hc.mono _ _ _ (fun b s2 q O2 H2 R2 k2 => ?_) (turn m s1 w1)⟩
    cases b with
    | true =>
      refine ⟨fun σ3 H3 => ∃ m', m' < m ∧ ∃ O3 s3, Rl X.K p O3 σ3 H3 s3 ∧ Kp O H O3 H3 ∧ W m' s3, fun σ' H' ⟨m', lt, w⟩ => ⟨m', lt, w⟩, p, O2, s2, R2, h.mono _ _ _ ?_ q⟩
      have nxt : ∀ s3, (∃ m', m' < m ∧ W m' s3) → goes X.K p O2 H2 (fun σ3 H3 => ∃ m', m' < m ∧ ∃ O3 s3, Rl X.K p O3 σ3 H3 s3 ∧ Kp O H O3 H3 ∧ W m' s3) s3 := fun s3 ⟨m', lt, w⟩ σ3 O3 H3 R3 k3 => ⟨m', lt, O3, s3, R3, k1.trans (k2.trans k3), w⟩
      exact ⟨nxt, fun b d s3 q v σ3 O3 H3 R3 k3 => q v σ3 O3 H3 R3 (k1.trans (k2.trans k3)), fun s3 q σ3 O3 H3 R3 k3 => q σ3 O3 H3 R3 (k1.trans (k2.trans k3)), nxt⟩
    | false => exact q σ1 O2 H2 R2 (k1.trans k2)
  · cases b with
    | true => exact h.mono _ (E.lp _) (E'.lp _) (w.lp fun _ z => z) q
    | false => exact w.nx _ q
/-- the turns of a loop -/
def fRun (g : PTG) (tb : PTS) (E : PEnds) : List PyData → PSt → Prop
  | [], s => E.nx s
  | d :: ds, s => g d s fun s1 => tb (E.lp (fRun g tb E ds)) s1
theorem fRun_mono {g : PTG} {tb : PTS} (hg : ∀ d s Q Q', (∀ s', Q s' → Q' s') → g d s Q → g d s Q') (hb : MonoS tb) {E E' : PEnds} (w : PEnds.Le E E') : ∀ (ds : List PyData) (s : PSt), fRun g tb E ds s → fRun g tb E' ds s
  | [], s, q => w.nx _ q
  | d :: ds, s, q => hg _ _ _ _ (fun s1 => hb _ (E.lp _) (E'.lp _) (w.lp (fRun_mono hg hb w ds))) q
@[simp] def tFo (ti : PTI) (g : PTG) (tb : PTS) : PTS := fun E s => ti s fun items s1 => fRun g tb E items s1
theorem ds_for {iter : Expr} {ti : PTI} {g : PTG} {ws : List Nat} (hp : PassesOwn (model X.prog X.w) X.A X.env X.xe) (hc : X.calm = true) (hi : DI X false tg iter ti) (hg : DG X tg ws g) (h : DSs X sts t) (hs : ∀ x, foldedSetIterable iter X.env x = pure x := by intro _; rfl) :
    DS X (.For tg iter sts [] pos) (tFo ti g t) := by
  refine ⟨PS.weak (ps_for hp hc hi.pi hg.pg h.ps hs) fun D σ H ⟨p, O, s, R, q⟩ => ⟨p, O, s, R, hi.mono _ _ _ (fun items s1 q J O1 H1 R1 k1 it => ?_) q⟩, fun s E E' w q => hi.mono _ _ _ (fun items s1 => fRun_mono hg.mono h.mono w items s1) q⟩
  refine ⟨fun i m σ2 H2 => m = items.length - i ∧ i ≤ items.length ∧ ∃ O2 s2, Rl X.K p O2 σ2 H2 s2 ∧ Kp O1 H1 O2 H2 ∧ fRun g t (endsOf X.K p O H D) (items.drop i) s2, ⟨items.length, by simp, Nat.zero_le _, O1, s1, R1, .refl, q⟩, ?_⟩
  rintro i m σ2 H2 ⟨rfl, hle, O2, s2, R2, k2, q2⟩
  have st : Stand false p O1 H1 O2 H2 := ⟨k2, fun z => nomatch z⟩
  by_cases hlt : i < items.length
  · refine .inr ⟨it.go i O2 H2 st hlt, fun σ3 H3 => ∃ O3 s3, Rl X.K p O3 σ3 H3 s3 ∧ Kp O1 H1 O3 H3 ∧ fRun g t (endsOf X.K p O H D) (items.drop (i + 1)) s3, fun σ3 H3 w => ⟨items.length - (i + 1), by omega, rfl, hlt, w⟩, fun x H3 y => ?_⟩
    obtain ⟨alt, ax⟩ := it.yld i O2 H2 x H3 items[i] st R2.dom (List.getElem?_eq_getElem hlt) y
    have step : Rl X.K p O2 σ2 H3 s2 ∧ Kp O2 H2 O2 H3 := by
      rcases alt with z | ⟨b, o, hb, z⟩
      · subst z; exact ⟨R2, .refl⟩
      · subst z; exact ⟨R2.new hb, Kp.new hb⟩
    obtain ⟨R3, k3⟩ := step
    rw [List.drop_eq_getElem_cons hlt] at q2
    refine ⟨p, O2, s2, items[i], R3, ax, hg.mono _ _ _ _ (fun s4 q4 σ4 R4 _ => ⟨p, O2, s4, R4, h.mono _ _ _ ?_ q4⟩) q2⟩
    have nxt : ∀ s5, fRun g t (endsOf X.K p O H D) (items.drop (i + 1)) s5 → goes X.K p O2 H3 (fun σ3 H3 => ∃ O3 s3, Rl X.K p O3 σ3 H3 s3 ∧ Kp O1 H1 O3 H3 ∧ fRun g t (endsOf X.K p O H D) (items.drop (i + 1)) s3) s5 :=
      fun s5 q5 σ5 O5 H5 R5 k5 => ⟨O5, s5, R5, k2.trans (k3.trans k5), q5⟩
    have back : Kp O H O2 H3 := k1.trans (k2.trans k3)
    exact ⟨nxt, fun b d s5 q v σ5 O5 H5 R5 k5 => q v σ5 O5 H5 R5 (back.trans k5), fun s5 q σ5 O5 H5 R5 k5 => q σ5 O5 H5 R5 (back.trans k5), nxt⟩
  · have ei : i = items.length := by omega
    subst ei
    rw [List.drop_length] at q2
    exact .inl ⟨it.stop _ O2 H2 st (Nat.le_refl _), q2 σ2 O2 H2 R2 (k1.trans k2)⟩
end
end PD
end
section
set_option Elab.async false
set_option linter.all false
set_option maxRecDepth 100000
set_option maxHeartbeats 4000000
/-! PD15: stores in parts, several names at once, the rule for a def. -/
namespace PD
open PySem PySem.Spec PyProof.Rows L2

section
variable {K : PySem.W.Frag} {X : Cx} {p : Pm} {O O' : Ow} {σ σ' : L2.St} {H H' : Hp} {s s' : PSt} {v : V} {d : PyData} {a : Addr} {e ea eb ec tg o i : Expr} {es : List Expr} {pos ppos : Pos} {st : Stmt} {sts : List Stmt} {t u : PTS} {te ta tb tc ti : PTE} {fr fa fb fc : Bool}

/-! ### o[i] = e -/
theorem PSet.or {t u : TSet} (h : PSet X t) (k : PSet X u) : PSet X (fun o i v H Q => t o i v H Q ∨ u o i v H Q) := fun pins s σ H o i v ov iv w Q I ro ri rv q => by
  rcases q with q | q
  · exact h pins s σ H o i v ov iv w Q I ro ri rv q
  · exact k pins s σ H o i v ov iv w Q I ro ri rv q
def sameK (k k' : PyData) : Prop := keyOf k' = keyOf k ∧ keysOf k' = keysOf k
instance (k k' : PyData) : Decidable (sameK k k') := by unfold sameK; exact inferInstance
/-- d[k] = v -/
def insD (k d : PyData) (ds : List (PyData × PyData)) : List (PyData × PyData) :=
  if (ds.any fun q => decide (sameK k q.1)) = true then ds.map fun q => if sameK k q.1 then (q.1, d) else q else ds ++ [(k, d)]
theorem same_k {k k' : Key} : sameK (keyD k) (keyD k') ↔ k' = k := by
  unfold sameK
  rw [keyOf_keyD, keyOf_keyD]
  exact ⟨fun h => Option.some.inj h.1, fun h => by rw [h]; exact ⟨rfl, rfl⟩⟩
theorem same_t {k k' : List Key} : sameK (keysD k) (keysD k') ↔ k' = k := by
  have q : ∀ k : List Key, keysOf (keysD k) = some k := fun k => keysAll_map k
  unfold sameK
  rw [q, q]
  exact ⟨fun h => Option.some.inj h.2, fun h => by rw [h]; exact ⟨rfl, rfl⟩⟩
theorem AtK.app : ∀ {kvs : List (Key × V)} {ds : List (PyData × PyData)} {k : Key}, AtK K O H kvs ds → At K O H v d → AtK K O H (kvs ++ [(k, v)]) (ds ++ [(keyD k, d)])
  | _, _, _, .nil, h => .cons h .nil
  | _, _, _, .cons h1 h2, h => .cons h1 (AtK.app h2 h)
theorem AtT.app : ∀ {kvs : List (List Key × V)} {ds : List (PyData × PyData)} {k : List Key}, AtT K O H kvs ds → At K O H v d → AtT K O H (kvs ++ [(k, v)]) (ds ++ [(keysD k, d)])
  | _, _, _, .nil, h => .cons h .nil
  | _, _, _, .cons h1 h2, h => .cons h1 (AtT.app h2 h)
theorem AtK.rep : ∀ {kvs : List (Key × V)} {ds : List (PyData × PyData)} {k : Key}, AtK K O H kvs ds → At K O H v d → (kvs.any fun kv => decide (kv.1 = k)) = (ds.any fun q => decide (sameK (keyD k) q.1)) ∧ AtK K O H (kvs.map fun kv => if kv.1 = k then (kv.1, v) else kv) (ds.map fun q => if sameK (keyD k) q.1 then (q.1, d) else q)
  | _, _, _, .nil, h => ⟨rfl, .nil⟩
  | _, _, k, .cons (k := k') h1 h2, h => by
    obtain ⟨e, l⟩ := AtK.rep (k := k) h2 h
    rw [List.any_cons, List.any_cons, List.map_cons, List.map_cons, e]
    by_cases q : k' = k
    · rw [if_pos q, if_pos (same_k.mpr q), decide_eq_true q, decide_eq_true (same_k.mpr q)]
      exact ⟨rfl, .cons h l⟩
    · rw [if_neg q, if_neg fun z => q (same_k.mp z), decide_eq_false q, decide_eq_false fun z => q (same_k.mp z)]
      exact ⟨rfl, .cons h1 l⟩
theorem AtT.rep : ∀ {kvs : List (List Key × V)} {ds : List (PyData × PyData)} {k : List Key}, AtT K O H kvs ds → At K O H v d → (kvs.any fun kv => decide (kv.1 = k)) = (ds.any fun q => decide (sameK (keysD k) q.1)) ∧ AtT K O H (kvs.map fun kv => if kv.1 = k then (kv.1, v) else kv) (ds.map fun q => if sameK (keysD k) q.1 then (q.1, d) else q)
  | _, _, _, .nil, h => ⟨rfl, .nil⟩
  | _, _, k, .cons (k := k') h1 h2, h => by
    obtain ⟨e, l⟩ := AtT.rep (k := k) h2 h
    rw [List.any_cons, List.any_cons, List.map_cons, List.map_cons, e]
    by_cases q : k' = k
    · rw [if_pos q, if_pos (same_t.mpr q), decide_eq_true q, decide_eq_true (same_t.mpr q)]
      exact ⟨rfl, .cons h l⟩
    · rw [if_neg q, if_neg fun z => q (same_t.mp z), decide_eq_false q, decide_eq_false fun z => q (same_t.mp z)]
      exact ⟨rfl, .cons h1 l⟩
theorem AtK.put {kvs : List (Key × V)} {ds : List (PyData × PyData)} {k : Key} (l : AtK K O H kvs ds) (h : At K O H v d) : AtK K O H (putK kvs k v) (insD (keyD k) d ds) := by
  unfold putK insD
  rw [(l.rep (k := k) h).1]
  split
  · exact (l.rep h).2
  · exact l.app h
theorem AtT.put {kvs : List (List Key × V)} {ds : List (PyData × PyData)} {k : List Key} (l : AtT K O H kvs ds) (h : At K O H v d) : AtT K O H (putK kvs k v) (insD (keysD k) d ds) := by
  unfold putK insD
  rw [(l.rep (k := k) h).1]
  split
  · exact (l.rep h).2
  · exact l.app h
/-- a place's content of slot n -/
@[simp] def putS (s : PSt) (n : Nat) (k d : PyData) (Q : PSt → Prop) : Prop := match s.G[n]? with
  | some (.m (.list ds)) => ∃ j m, k = .int j ∧ ixN ds.length j = some m ∧ Q { s with G := s.G.set n (.m (.list (ds.set m d))) }
  | some (.m (.dict ((.bool t, .none) :: ds))) => keyFits t k = true ∧ ds.length < sizeLine ∧ Q { s with G := s.G.set n (.m (dicD t (insD k d ds))) }
  | some .h => ∃ j m, k = .int j ∧ ixN s.hd.length j = some m ∧ Q { s with hd := s.hd.set m d }
  | _ => False
theorem AtK.length : ∀ {kvs : List (Key × V)} {ds : List (PyData × PyData)}, AtK K O H kvs ds → kvs.length = ds.length
  | _, _, .nil => rfl
  | _, _, .cons _ t => by rw [List.length_cons, List.length_cons, AtK.length t]
theorem AtT.length : ∀ {kvs : List (List Key × V)} {ds : List (PyData × PyData)}, AtT K O H kvs ds → kvs.length = ds.length
  | _, _, .nil => rfl
  | _, _, .cons _ t => by rw [List.length_cons, List.length_cons, AtT.length t]
theorem mono_putS {n : Nat} {k : PyData} {Q Q' : PSt → Prop} (w : ∀ s, Q s → Q' s) (q : putS s n k d Q) : putS s n k d Q' := by
  unfold putS at q ⊢
  split at q
  · obtain ⟨j, m, e1, e2, q⟩ := q
    exact ⟨j, m, e1, e2, w _ q⟩
  · exact ⟨q.1, q.2.1, w _ q.2.2⟩
  · obtain ⟨j, m, e1, e2, q⟩ := q
    exact ⟨j, m, e1, e2, w _ q⟩
  · exact q.elim
/-- the store, read -/
theorem put_read {n : Nat} {k : PyData} {ov kv : V} {Q : Hp → Prop} (R : Rl K p O σ H s) (eo : σ[n]? = some (some ov)) (ak : At K O H kv k) (av : At K O H v d) (q : putS s n k d fun s' => ∀ O' H', Rl K p O' σ H' s' → Kp O H O' H' → Q H') :
    rSetL ov kv v H Q ∨ rSetD ov kv v H Q := by
  unfold putS at q
  split at q
  · rename_i ds g
    obtain ⟨j, m, e1, e2, q⟩ := q
    subst e1
    cases ak
    obtain ⟨b, xs, f1, f2, f3, f4⟩ := R.mlist g
    rw [eo] at f1
    cases f1
    have k2 : Kp O H O (upd H b (.lst (xs.set m v))) := ⟨fun c u e n => by rw [upd_ne (fun z => n (by rw [z]; exact f4))]; exact e, fun _ n _ => n⟩
    obtain ⟨R2, k3⟩ := R.put (d' := .list (ds.set m d)) (o := .lst (xs.set m v)) g eo (.lst upd_same ((f3.set m av).to k2))
    exact .inl ⟨b, xs, j, m, rfl, rfl, f2, by rw [f3.len]; exact e2, q O _ R2 k3⟩
  · rename_i t ds g
    obtain ⟨e1, e2, q⟩ := q
    obtain ⟨b, f1, f2, f3, f4, f5⟩ := R.sl n _ g
    rw [eo] at f1
    cases f1
    right
    cases f5 with
    | dicK h1 h2 =>
      rename_i kvs
      obtain ⟨k', rfl⟩ := keyOf_some (show (keyOf k).isSome = true from e1)
      cases ak.key
      have k2 : Kp O H O (upd H b (.dK (putK kvs k' v))) := ⟨fun c u e n => by rw [upd_ne (fun z => n (by rw [z]; exact f2))]; exact e, fun _ n _ => n⟩
      obtain ⟨R2, k3⟩ := R.put (d' := dicD false (insD (keyD k') d ds)) (o := .dK (putK kvs k' v)) g eo (.dicK upd_same ((h2.put av).to k2))
      exact ⟨b, _, rfl, DPut.k h1 (by rw [h2.length]; exact e2), q O _ R2 k3⟩
    | dicT h1 h2 =>
      rename_i kvs
      obtain ⟨k', rfl⟩ := keysOf_some (show (keysOf k).isSome = true from e1)
      have k2 : Kp O H O (upd H b (.dT (putK kvs k' v))) := ⟨fun c u e n => by rw [upd_ne (fun z => n (by rw [z]; exact f2))]; exact e, fun _ n _ => n⟩
      obtain ⟨R2, k3⟩ := R.put (d' := dicD true (insD (keysD k') d ds)) (o := .dT (putK kvs k' v)) g eo (.dicT upd_same ((h2.put av).to k2))
      cases ak with
      | tup s1 l1 =>
        rename_i c xs
        have ex := AtL.keys l1
        subst ex
        exact ⟨b, _, rfl, DPut.t h1 s1.2 (by rw [h2.length]; exact e2), q O _ R2 k3⟩
  · rename_i g
    obtain ⟨j, m, e1, e2, q⟩ := q
    subst e1
    cases ak
    obtain ⟨b, f1, f2⟩ := R.sl n _ g
    rw [eo] at f2
    cases f2
    obtain ⟨f3, xs, f4, f5⟩ := R.hand b f1
    obtain ⟨R2, k3⟩ := R.handPut f1 (f5.set m av)
    exact .inl ⟨b, xs, j, m, rfl, rfl, f4, by rw [f5.len]; exact e2, q O _ R2 k3⟩
  · exact q.elim
@[simp] def tPut (te : PTE) (n : Nat) (ti : PTE) : PTS := fun E s => te s fun d s1 => (∃ S, s1.G[n]? = some S ∧ ((∃ d, S = .m d) ∨ S = .h)) ∧ ti s1 fun k s2 => putS s2 n k d E.nx
theorem Rl.has {n : Nat} (R : Rl K p O σ H s) (h : ∃ S, s.G[n]? = some S ∧ ((∃ d, S = .m d) ∨ S = .h)) : ∃ v, σ[n]? = some (some v) := by
  obtain ⟨S, g, z⟩ := h
  have q := R.sl n S g
  rcases z with ⟨d, z⟩ | z <;> subst z
  · obtain ⟨b, e, _⟩ := q; exact ⟨_, e⟩
  · obtain ⟨b, _, e⟩ := q; exact ⟨_, e⟩
theorem ds_put {n : Nat} (hu : X.A.units + 1 < cLine) (he : DE X e te) (ho : PE X o (tVar n)) (hi : DE X i ti) (hs : swapsWithSole [.Subscript o i ppos] e pos.line X.env = pure false := by rfl) (hw : swappedStores [.Subscript o i ppos] e X.env = pure none := by rfl)
    (h1 : (assignEach [.Subscript o i ppos] X.env).map (·.2) = [assign (.Subscript o i ppos) X.env] := by rfl) (ha : ∀ v, assign (.Subscript o i ppos) X.env v = (do
      let ov ← holding [v] (eval o X.env)
      let iv ← holding [v, ov] (eval i X.env)
      standAt ppos
      holding [v, ov, iv] (setItem ov iv v)
      release [v, ov, iv] []) := by intro _; rfl) : DS X (.Assign [.Subscript o i ppos] e pos) (tPut te n ti) := by
  refine ⟨PS.weak (ps_asg he.pe (pg_sub ho hi.pe (PSet.or set_list (set_dict hu)) ha) hs hw h1) fun D σ H ⟨p, O, s, R, q⟩ => ⟨p, O, s, R, he.mono _ _ _ (fun d s1 ⟨hh, q1⟩ v O1 H1 R1 k1 av => ?_) q⟩, fun s E E' w q => he.mono _ _ _ (fun d s1 ⟨hh, q⟩ => ⟨hh, hi.mono _ _ _ (fun k s2 => mono_putS w.nx) q⟩) q⟩
  obtain ⟨ov, eo⟩ := R1.has hh
  exact ⟨ov, eo, p, O1, s1, R1, hi.mono _ _ _ (fun k s2 q2 kv O2 H2 R2 k2 ak => put_read R2 eo ak (av.to k2) (mono_putS (fun s3 q3 O3 H3 R3 k3 => q3 σ O3 H3 R3 (k1.trans (k2.trans k3))) q2)) q1⟩

/-! ### a, b = x, y -/
inductive Vals' (K : PySem.W.Frag) (p : Pm) (O : Ow) (σ : L2.St) (H : Hp) (s : PSt) : List Bool → List V → List PyData → Prop
  | nil : Vals' K p O σ H s [] [] []
  | cons {f : Bool} {v : V} {d : PyData} {fs : List Bool} {vs : List V} {ds : List PyData} : Val K p O σ H s f v d → (f = true → ∀ i : Nat, fs[i]? = some true → vs[i]? ≠ some v) → Vals' K p O σ H s fs vs ds → Vals' K p O σ H s (f :: fs) (v :: vs) (d :: ds)
def liftM (K : PySem.W.Frag) (fs : List Bool) (t : PTA) : TA := fun σ H QV => ∃ p O s, Rl K p O σ H s ∧ t s fun ds s' => ∀ vs O' H', Rl K p O' σ H' s' → Kp O H O' H' → Vals' K p O' σ H' s' fs vs ds → QV vs H'
structure DM (X : Cx) (fs : List Bool) (es : List Expr) (t : PTA) : Prop where
  pa : PA X es (liftM X.K fs t)
  mono : MonoA t
@[simp] def tMn : PTA := fun s Q => Q [] s
theorem dm_nil : DM X [] [] tMn := ⟨PA.weak pa_nil fun σ H Q ⟨p, O, s, R, q⟩ => q [] O H R .refl .nil, fun s Q Q' w q => w _ _ q⟩
@[simp] def tMc (fr : Bool) (t : PTE) (u : PTA) : PTA := fun s Q => t s fun x s1 => if fr = true then u ⟨s1.G.map Sl.inn, s1.hd⟩ fun ds s2 => Q (x :: ds) ⟨s1.G, s2.hd⟩ else u s1 fun ds s2 => Q (x :: ds) s2
theorem Val.to {f : Bool} (R : Rl K p O σ H s) (k : Kp O H O' H') (ho : ∀ a, O a → O' a) (st : ∀ b o, H b = some o → p.ha ≠ some b → H' b = some o) (hg : ∀ (i : Nat) (d' : PyData), s'.G[i]? = some (.m d') → s.G[i]? = some (.m d')) (h : Val K p O σ H s f v d) : Val K p O' σ H' s' f v d := by
  cases f with
  | false => exact At.to k h
  | true =>
    obtain ⟨a, rfl, l1, l2, l3, l4, l5⟩ := h
    refine ⟨a, rfl, ho a l1, l2, l3, l4.to k ?_, fun i d' g => l5 i d' (hg i d' g)⟩
    cases e : H a with
    | none => exact absurd e l4.some
    | some o => exact st a o e l3
/-- what stands through a part, new behind it -/
theorem Vals'.back {fs : List Bool} {vs : List V} {ds : List PyData} {hd : List PyData} (R : Rl K p O σ H s) (R' : Rl K ⟨p.ha, H, O⟩ O' σ H' s') (h : Vals' K ⟨p.ha, H, O⟩ O' σ H' s' fs vs ds) : Vals' K p O' σ H' ⟨s.G, hd⟩ fs vs ds ∧ ∀ b, H b ≠ none → ∀ (i : Nat), fs[i]? = some true → vs[i]? ≠ some (.ref b) := by
  induction h with
  | nil => exact ⟨.nil, fun b _ i e => by simp at e⟩
  | cons h1 h2 h3 ih =>
    rename_i f v d fs vs ds
    refine ⟨.cons ?_ h2 ih.1, fun b hb i e z => ?_⟩
    · cases f with
      | false => exact h1
      | true =>
        obtain ⟨a, rfl, l1, l2, l3, l4, l5⟩ := h1
        obtain ⟨f1, f2, f3⟩ := R.fresh (show H a = none from l2)
        exact ⟨a, rfl, l1, f1, l3, l4, f3⟩
    · cases i with
      | zero =>
        simp only [List.getElem?_cons_zero, Option.some.injEq] at e z
        subst e
        obtain ⟨a, ev, l1, l2, _⟩ := h1
        rw [z] at ev
        cases ev
        exact hb l2
      | succ n =>
        simp only [List.getElem?_cons_succ] at e z
        exact ih.2 b hb n e z
end
end PD
end
section
set_option Elab.async false
set_option linter.all false
set_option maxRecDepth 100000
set_option maxHeartbeats 4000000
/-! PD16: several names at once; the rule for a def. -/
namespace PD
open PySem PySem.Spec PyProof.Rows L2

section
variable {K : PySem.W.Frag} {X : Cx} {p : Pm} {O O' : Ow} {σ σ' : L2.St} {H H' : Hp} {s s' : PSt} {v w : V} {d : PyData} {a : Addr} {e ea eb ec tg o i : Expr} {es : List Expr} {pos ppos : Pos} {st : Stmt} {sts : List Stmt} {t u : PTS} {te ta tb tc ti : PTE} {fr fa fb fc : Bool}
theorem dm_cons {fs : List Bool} {u : PTA} (h : DX X fr e te) (k : DM X fs es u) (hs : starEach (e :: es) X.env = (false, eval e X.env) :: starEach es X.env := by rfl) : DM X (fr :: fs) (e :: es) (tMc fr te u) := by
  refine ⟨PA.weak (pa_cons h.pe k.pa hs) fun σ H QV ⟨p, O, s, R, q⟩ => ⟨p, O, s, R, h.mono _ _ _ (fun x s1 q1 v O1 H1 R1 k1 av => ?_) q⟩, fun s Q Q' w q => h.mono _ _ _ (fun x s1 q1 => ?_) q⟩
  · cases fr with
    | false => exact ⟨p, O1, s1, R1, k.mono _ _ _ (fun ds s2 q2 vs O2 H2 R2 k2 l2 => q2 (v :: vs) O2 H2 R2 (k1.trans k2) (.cons (At.to k2 av) (fun z => nomatch z) l2)) q1⟩
    | true =>
      refine ⟨⟨p.ha, H1, O1⟩, O1, ⟨s1.G.map Sl.inn, s1.hd⟩, R1.into [], k.mono _ _ _ (fun ds s2 q2 vs O2 H2 R2 k2 l2 => ?_) q1⟩
      have z := l2.back (hd := s2.hd) R1 R2
      refine q2 (v :: vs) O2 H2 (R1.back R2 k2) (k1.trans k2) (.cons (Val.to R1 k2 R2.o0 (fun b o e n => R2.frm b o e n) (fun _ _ g => g) av) (fun _ i e => ?_) z.1)
      obtain ⟨b, rfl, l⟩ := av
      exact z.2 b l.2.2.2.1.some i e
  · cases fr with
    | false => exact k.mono _ _ _ (fun ds s2 => w _ _) q1
    | true => exact k.mono _ _ _ (fun ds s2 => w _ _) q1
theorem Val.setx {n : Nat} {x y : PyData} (h : Val K p O σ H s fb w y) (ne : fa = true → fb = true → w ≠ v) : Val K p O (σ.set n (some v)) H { s with G := s.G.set n (Sl.of fa x) } fb w y := by
  cases fb with
  | false => exact h
  | true =>
    obtain ⟨b, rfl, l1, l2, l3, l4, l5⟩ := h
    refine ⟨b, rfl, l1, l2, l3, l4, fun m d' g z => ?_⟩
    by_cases hj : n = m
    · subst hj
      have g : (s.G.set n (Sl.of fa x))[n]? = some (.m d') := g
      rw [List.getElem?_set] at g z
      simp only [if_true] at g z
      split at g
      · split at z
        · cases fa with
          | false => cases g
          | true =>
            injection z with z
            injection z with z
            exact ne rfl rfl z.symm
        · cases z
      · cases g
    · have g : (s.G.set n (Sl.of fa x))[m]? = some (.m d') := g
      rw [List.getElem?_set_ne hj] at g z
      exact l5 m d' g z
@[simp] def tPr2 (fa fb : Bool) (i j : Nat) (t : PTA) : PTS := fun E s => t s fun ds s' => ∃ x y, ds = [x, y] ∧ E.nx { s' with G := (s'.G.set i (Sl.of fa x)).set j (Sl.of fb y) }
theorem ds_par2 {i j : Nat} {x y : Str} {a b : Expr} {t : PTA} {px py pt : Pos} {kt k2 pt2} (hc : X.calm = true) (hN : X.N.Nodup) (hi : X.N[i]? = some x) (hj : X.N[j]? = some y) (h : DM X [fa, fb] [a, b] t) (hij : i ≠ j := by decide)
    (hx : X.env.scope.names.lookup x = some .local := by rfl) (hy : X.env.scope.names.lookup y = some .local := by rfl)
    (hw : swappedStores [.Tuple [.Name x px, .Name y py] kt pt] (.Tuple [a, b] k2 pt2) X.env = pure (some [x, y]) := by rfl)
    (hs : swapsWithSole [.Tuple [.Name x px, .Name y py] kt pt] (.Tuple [a, b] k2 pt2) pos.line X.env = pure false := by rfl) :
    DS X (.Assign [.Tuple [.Name x px, .Name y py] kt pt] (.Tuple [a, b] k2 pt2) pos) (tPr2 fa fb i j t) := by
  refine ⟨PS.weak (ps_par hc hN hi hj hij hx hy h.pa hw hs) fun D σ H ⟨p, O, s, R, q⟩ => ⟨p, O, s, R, h.mono _ _ _ (fun ds s' ⟨x, y, ed, q⟩ vs O' H' R' k' l => ?_) q⟩, fun s E E' w q => h.mono _ _ _ (fun ds s' ⟨x, y, ed, q⟩ => ⟨x, y, ed, w.nx _ q⟩) q⟩
  subst ed
  cases l with
  | cons v1 n1 l =>
    cases l with
    | cons v2 n2 l =>
      cases l
      rename_i v w
      exact ⟨v, w, rfl, q _ O' H' ((R'.setx v1).setx (v2.setx fun f1 f2 z => n1 f1 0 (by rw [f2]; rfl) (by rw [← z]; rfl))) k'⟩
@[simp] def tPr3 (fa fb fc : Bool) (i j l : Nat) (t : PTA) : PTS := fun E s => t s fun ds s' => ∃ x y z, ds = [x, y, z] ∧ E.nx { s' with G := ((s'.G.set i (Sl.of fa x)).set j (Sl.of fb y)).set l (Sl.of fc z) }
theorem ds_par3 {i j l : Nat} {x y z : Str} {a b c : Expr} {t : PTA} {px py pz pt : Pos} {kt k2 pt2} (hc : X.calm = true) (hN : X.N.Nodup) (hi : X.N[i]? = some x) (hj : X.N[j]? = some y) (hl : X.N[l]? = some z) (h : DM X [fa, fb, fc] [a, b, c] t) (hij : i ≠ j := by decide) (hil : i ≠ l := by decide) (hjl : j ≠ l := by decide)
    (hx : X.env.scope.names.lookup x = some .local := by rfl) (hy : X.env.scope.names.lookup y = some .local := by rfl) (hz : X.env.scope.names.lookup z = some .local := by rfl)
    (hw : swappedStores [.Tuple [.Name x px, .Name y py, .Name z pz] kt pt] (.Tuple [a, b, c] k2 pt2) X.env = pure (some [x, y, z]) := by rfl)
    (hs : swapsWithSole [.Tuple [.Name x px, .Name y py, .Name z pz] kt pt] (.Tuple [a, b, c] k2 pt2) pos.line X.env = pure false := by rfl) :
    DS X (.Assign [.Tuple [.Name x px, .Name y py, .Name z pz] kt pt] (.Tuple [a, b, c] k2 pt2) pos) (tPr3 fa fb fc i j l t) := by
  refine ⟨PS.weak (ps_par3 hc hN hi hj hl hij hil hjl hx hy hz h.pa hw hs) fun D σ H ⟨p, O, s, R, q⟩ => ⟨p, O, s, R, h.mono _ _ _ (fun ds s' ⟨x, y, z, ed, q⟩ vs O' H' R' k' l => ?_) q⟩, fun s E E' w q => h.mono _ _ _ (fun ds s' ⟨x, y, z, ed, q⟩ => ⟨x, y, z, ed, w.nx _ q⟩) q⟩
  subst ed
  cases l with
  | cons v1 n1 l =>
    cases l with
    | cons v2 n2 l =>
      cases l with
      | cons v3 n3 l =>
        cases l
        rename_i v w x
        refine ⟨v, w, x, rfl, q _ O' H' (((R'.setx v1).setx (v2.setx fun f1 f2 z => n1 f1 0 (by rw [f2]; rfl) (by rw [← z]; rfl))).setx ?_) k'⟩
        exact (v3.setx fun f1 f2 z => n1 f1 1 (by rw [f2]; rfl) (by rw [← z]; rfl)).setx fun f1 f2 z => n2 f1 0 (by rw [f2]; rfl) (by rw [← z]; rfl)

/-! ### a def -/
@[simp] def AV.sl : AV → Sl
  | .d x => .v x
  | .hand => .h
@[simp] def initG (N : List Str) (avs : List AV) : List Sl := avs.map AV.sl ++ List.replicate (N.length - avs.length) .no
theorem AvL.length {ha : Option Addr} : ∀ {vs : List V} {avs : List AV}, AvL K O ha H vs avs → vs.length = avs.length
  | _, _, .nil => rfl
  | _, _, .d _ t => by rw [List.length_cons, List.length_cons, AvL.length t]
  | _, _, .hand _ t => by rw [List.length_cons, List.length_cons, AvL.length t]
theorem AvL.get {ha : Option Addr} : ∀ {vs : List V} {avs : List AV} {i : Nat} {x : AV}, AvL K O ha H vs avs → avs[i]? = some x → ∃ v, vs[i]? = some v ∧ ((∃ d, x = .d d ∧ At K O H v d) ∨ (x = .hand ∧ ∃ a, ha = some a ∧ v = .ref a))
  | _, _, _, _, .nil, e => by simp at e
  | _, _, 0, _, .d h _, e => by simp at e; subst e; exact ⟨_, rfl, .inl ⟨_, rfl, h⟩⟩
  | _, _, 0, _, .hand h _, e => by simp at e; subst e; exact ⟨_, rfl, .inr ⟨rfl, _, h, rfl⟩⟩
  | _, _, i + 1, x, .d _ t, e => by
    obtain ⟨v, h1, h2⟩ := AvL.get (i := i) (x := x) t (by simpa using e)
    exact ⟨v, by simpa using h1, h2⟩
  | _, _, i + 1, x, .hand _ t, e => by
    obtain ⟨v, h1, h2⟩ := AvL.get (i := i) (x := x) t (by simpa using e)
    exact ⟨v, by simpa using h1, h2⟩
theorem Rl.start {N : List Str} {vs : List V} {avs : List AV} {hd : List PyData} {ha : Option Addr} (hh : HandOk K O ha H hd) (hd0 : ∀ a, O a → NT (H a)) (l : AvL K O ha H vs avs) : Rl K ⟨ha, H, O⟩ O (L2.start N vs) H ⟨initG N avs, hd⟩ := by
  have get : ∀ (i : Nat) (S : Sl), (initG N avs)[i]? = some S → S = .no ∨ ∃ x, avs[i]? = some x ∧ S = x.sl := fun i S e => by
    unfold initG at e
    rw [List.getElem?_append] at e
    split at e
    · rw [List.getElem?_map] at e
      cases q : avs[i]? with
      | none => rw [q] at e; cases e
      | some x => rw [q] at e; injection e with e; exact .inr ⟨x, rfl, e.symm⟩
    · rw [List.getElem?_replicate] at e
      split at e
      · injection e with e; exact .inl e.symm
      · cases e
  refine ⟨?_, fun i S e => ?_, fun i j d d' c e1 _ => ?_, hh, fun _ _ e _ => e, hd0, fun _ z => z, fun a z => (hd0 a z).ne, fun _ z _ => z⟩
  · show (initG N avs).length = (L2.start N vs).length
    unfold initG L2.start
    rw [List.length_append, List.length_append, List.length_map, List.length_map, List.length_replicate, List.length_replicate, l.length]
  · rcases get i S e with z | ⟨x, e1, e2⟩
    · subst z; trivial
    · obtain ⟨v, f1, f2⟩ := l.get e1
      have hi : i < vs.length := (List.getElem?_eq_some_iff.mp f1).1
      have f3 : (L2.start N vs)[i]? = some (some v) := by
        unfold L2.start
        rw [List.getElem?_append_left (by rw [List.length_map]; exact hi), List.getElem?_map, f1]
        rfl
      rcases f2 with ⟨d, ex, at1⟩ | ⟨ex, b, hb, ev⟩
      · subst ex e2; exact ⟨v, f3, at1⟩
      · subst ex e2 ev; exact ⟨b, hb, f3⟩
  · rcases get i _ e1 with z | ⟨x, _, z⟩
    · cases z
    · cases x <;> cases z
@[simp] def fnEnds (fr : Bool) (Q : PyData → List PyData → Prop) : PEnds :=
  ⟨fun s => fr = false ∧ Q .none s.hd, fun f d s => (fr = true → f = true) ∧ Q d s.hd, fun _ => False, fun _ => False⟩
theorem def_read {N : List Str} {vs : List V} {avs : List AV} {hd : List PyData} {ha : Option Addr} {Q : VK} (ht : MonoS t) (hh : HandOk K O ha H hd) (hd0 : ∀ a, O a → NT (H a)) (l : AvL K O ha H vs avs)
    (q : t (fnEnds fr fun d hd' => ∀ v H', Fram ha H H' → HandOk K O ha H' hd' → (if fr = true then ∃ a, v = .ref a ∧ H a = none ∧ Own K (O.with a) H' a d ∧ HandOk K (O.with a) ha H' hd' else At K O H' v d) → Q v H') ⟨initG N avs, hd⟩) :
    liftS K t { nx := fun _ H' => Q .non H', rt := Q } (L2.start N vs) H := by
  have less : ∀ {O' : Ow} {H' : Hp}, (∀ a, O a → O' a) → Kp O' H' O H' := fun h => Kp.less h
  have hok : ∀ {O' σ' H' s'}, Rl K ⟨ha, H, O⟩ O' σ' H' s' → HandOk K O ha H' s'.hd := fun {O' σ' H' s'} R a e => by
    obtain ⟨h1, xs, h2, h3⟩ := R.hand a e
    exact ⟨(hh a e).1, xs, h2, h3.to (less R.o0)⟩
  refine ⟨⟨ha, H, O⟩, O, ⟨initG N avs, hd⟩, Rl.start hh hd0 l, ht _ (fnEnds fr _) _ ⟨fun s' ⟨ef, q⟩ σ' O' H' R k => ?_, fun f d s' ⟨ef, q⟩ v σ' O' H' R k a => ?_, fun _ z => z.elim, fun _ z => z.elim⟩ q⟩
  · subst ef
    exact q .non H' R.frm (hok R) .non
  · cases fr with
    | false =>
      refine q v H' R.frm (hok R) ?_
      cases f with
      | false => exact At.to (less R.o0) a
      | true =>
        obtain ⟨b, rfl, l1, l2, l3, l4, l5⟩ := a
        exact l4.free (fun z => R.od b z l2) R.o0
    | true =>
      cases f with
      | false => cases ef rfl
      | true =>
        obtain ⟨b, rfl, l1, l2, l3, l4, l5⟩ := a
        have k2 : Kp O' H' (O.with b) H' := Kp.less fun c z => by
          rcases z with z | z
          · exact R.o0 c z
          · rw [z]; exact l1
        refine q _ H' R.frm (hok R) ⟨b, rfl, l2, l4.to k2 rfl, fun a e => ?_⟩
        obtain ⟨h1, xs, h2, h3⟩ := R.hand a e
        exact ⟨.inl (hh a e).1, xs, h2, h3.to k2⟩
end

section
variable {P : Program} {w : World} {K : PySem.W.Frag} {mg : Str → Option Value} {base : Heap}
theorem fnD {x qual : Str} {st : Stmt} {f : Addr} {fd : FuncData} {N ps : List Str} {k : Nat} {fr : Bool} {Fs : FSpec} (F : L2.Fun K x qual st f fd) (S : FnScope N ps (defScope st)) (len : ∀ avs hd Q E, Fs avs hd Q E → avs.length = ps.length)
    (hbody : ∀ (cdv : Value) (A : Around) (outer : List Env) (s : Shared) (H : Hp) (E : XK), RoomG k (A.deeper (envOfC qual (defScope st) s.heap.objs.size f cdv)) →
      ∃ t, DSs (cxOf CX0 P w K mg base N qual (defScope st) f cdv A outer s H E).nox (defBody st) t ∧ ∀ avs hd Q E, Fs avs hd Q E → t (fnEnds fr Q) ⟨initG N avs, hd⟩) : FnG P w K mg base CX0 (k + 1) f fd ps (spD K fr Fs) := by
  refine Fun.okG F S (fun vs H Q E ⟨O, ha, avs, hd, _, _, l, q⟩ => by rw [l.length]; exact len _ _ _ _ q) fun cdv A outer s H vs Q E hr ⟨O, ha, avs, hd, hh, hd0, l, q⟩ => ?_
  obtain ⟨t, h, k⟩ := hbody cdv A outer s H E hr
  exact ⟨_, h.ps.nox, def_read h.mono hh hd0 l (k _ _ _ _ q)⟩
end
end PD
end
section
set_option Elab.async false
set_option linter.all false
set_option maxRecDepth 100000
set_option maxHeartbeats 4000000
/-! PD17: what was left: the built-ins' names, a negative number, list(range(n)), xs[::-1]. -/
namespace PD
open PySem PySem.Spec PyProof.Rows L2

theorem bt_len : bootBuiltins "len" = some (.builtin "len") := by decide +kernel
theorem bt_all : bootBuiltins "all" = some (.builtin "all") := by decide +kernel
theorem bt_any : bootBuiltins "any" = some (.builtin "any") := by decide +kernel
theorem bt_sum : bootBuiltins "sum" = some (.builtin "sum") := by decide +kernel
theorem bt_abs : bootBuiltins "abs" = some (.builtin "abs") := by decide +kernel
theorem bt_min : bootBuiltins "min" = some (.builtin "min") := by decide +kernel
theorem bt_max : bootBuiltins "max" = some (.builtin "max") := by decide +kernel
theorem bt_sorted : bootBuiltins "sorted" = some (.builtin "sorted") := by decide +kernel
theorem bt_isinstance : bootBuiltins "isinstance" = some (.builtin "isinstance") := by decide +kernel
theorem bt_int : bootBuiltins "int" = some (.type "int") := by decide +kernel
theorem bt_str : bootBuiltins "str" = some (.type "str") := by decide +kernel
theorem bt_bool : bootBuiltins "bool" = some (.type "bool") := by decide +kernel
theorem bt_list : bootBuiltins "list" = some (.type "list") := by decide +kernel
theorem bt_tuple : bootBuiltins "tuple" = some (.type "tuple") := by decide +kernel
theorem bt_dict : bootBuiltins "dict" = some (.type "dict") := by decide +kernel

section
variable {K : PySem.W.Frag} {X : Cx} {p : Pm} {O O' : Ow} {σ σ' : L2.St} {H H' : Hp} {s s' : PSt} {v w : V} {d : PyData} {a : Addr} {e ea eb ec tg o i : Expr} {es : List Expr} {pos ppos : Pos} {te ta tb tc ti : PTE}
theorem hu64 {k : Nat} {A : Around} (h : RoomG k A) : A.units + 64 < cLine := by have := h.r.un; omega
theorem hu1_ {k : Nat} {A : Around} (h : RoomG k A) : A.units + 1 < cLine := by have := h.r.un; omega
@[simp] def tNg (t : PTE) : PTE := fun s Q => t s fun d s' => ∃ i, d = .int i ∧ Q (.int (-i)) s'
theorem de_neg (h : DE X e te) : DE X (.UnaryOp .USub e pos) (tNg te) :=
  ⟨PE.weak (pe_un un_neg h.pe) fun σ H Q ⟨p, O, s, R, q⟩ => ⟨p, O, s, R, h.mono _ _ _ (fun d s' ⟨i, ed, q⟩ v O' H' R' k a => by
      subst ed
      cases a
      exact ⟨i, rfl, q _ O' H' R' k (.int _)⟩) q⟩,
    fun s Q Q' w q => h.mono _ _ _ (fun d s' ⟨i, ed, q⟩ => ⟨i, ed, w _ _ q⟩) q⟩
@[simp] def tLr (t : PTE) : PTE := fun s Q => t s fun d s' => ∃ n : Int, d = .int n ∧ 0 ≤ n ∧ n ≤ 16777216 ∧ Q (.list (rngD 0 n.toNat)) s'
theorem atL_rg (K : PySem.W.Frag) (O : Ow) (H : Hp) (a b : Int) : AtL K O H (rgV a b) (rngD a (b - a).toNat) := by
  unfold rgV rngD
  generalize (b - a).toNat = n
  have go : ∀ l : List Nat, AtL K O H (l.map fun i => V.int (a + (i : Nat))) (l.map fun i => PyData.int (a + (i : Nat))) := fun l => by
    induction l with
    | nil => exact .nil
    | cons x l ih => exact .cons (.int _) ih
  exact go _
theorem df_listRg {p1 p2 : Pos} (hc : X.calm = true) (hg : Gl X "list") (hm : X.mg "list" = none) (hg2 : Gl X "range") (hm2 : X.mg "range" = none) (h : DE X e te) (he : starEach [e] X.env = (false, eval e X.env) :: starEach [] X.env := by rfl) (hn : starEach [.Call (.Name "range" p2) [e] [] ppos] X.env = (false, eval (.Call (.Name "range" p2) [e] [] ppos) X.env) :: starEach [] X.env := by rfl) : DF X (.Call (.Name "list" p1) [.Call (.Name "range" p2) [e] [] ppos] [] pos) (tLr te) :=
  ⟨PE.weak (pe_listRg hc hg hm (prg_1 hg2 hm2 h.pe he) hn) fun σ H Q ⟨p, O, s, R, q⟩ => ⟨p, O, s, R, h.mono _ _ _ (fun d s' ⟨n, ed, h0, h1, q⟩ v O' H' R' k a => by
      subst ed
      cases a
      refine ⟨n, rfl, RgOk.of_le (Int.le_refl _) h1 (by decide) h0, fun l hl => ?_⟩
      have z := atL_rg X.K O' H' 0 n
      rw [Int.sub_zero] at z
      obtain ⟨f1, f2, f3⟩ := fin_lone R' hl z
      exact q l _ _ f1 (k.trans f2) f3) q⟩,
    fun s Q Q' w q => h.mono _ _ _ (fun d s' ⟨i, ed, h0, h1, q⟩ => ⟨i, ed, h0, h1, w _ _ q⟩) q⟩
end

/-! ### t[::-1] of a tuple -/
section
variable {prog : Program} {w : World} {A : Around} {E : Value → Shared → Prop} {s : Shared}
theorem adjust_back (n : Nat) : Builtin.Slice.sliceAdjust none none (-1) (n : Int) = ((n : Int) - 1, -1) := by
  unfold Builtin.Slice.sliceAdjust
  simp
theorem places_back (n : Nat) : Builtin.Slice.slicePlaces ((n : Int) - 1) (-1) (-1) = n := by
  unfold Builtin.Slice.slicePlaces
  have h1 : ¬ ((-1 : Int) > 0) := by decide
  have h2 : (- -1 : Int) = 1 := by decide
  simp only [h1, if_false, h2, Int.ediv_one]
  split <;> omega
theorem applied_back {sl : Addr} {vl vu vs : Value} {n : Nat} {Q : Int × Int × Nat → Shared → Prop} (hs : s.heap.IsSliceOf sl vl vu vs) (pl : IsPart vl none) (pu : IsPart vu none) (ps : IsPart vs (some (-1)))
    (h : Q ((n : Int) - 1, -1, n) s) : wpAny (model prog w) A (Builtin.Slice.sliceApplied (.ref sl) (pure (n : Int))) Q E s := by
  obtain ⟨ob, h1, h2, h3⟩ := hs
  unfold Builtin.Slice.sliceApplied Builtin.Slice.sliceFields
  refine wpAny_bind (wpAny_bind (wpAny_field h1 h3 (x := vl) rfl (wpAny_bind (wpAny_field h1 h3 (x := vu) rfl (wpAny_bind (wpAny_field h1 h3 (x := vs) rfl (wpAny_pure ?_)))))))
  refine wpAny_bind (HT.slicePart_ ps ?_)
  show wpAny _ _ (if ((-1 : Int) == 0) = true then _ else _) _ _ s
  rw [if_neg (by decide)]
  refine wpAny_bind (HT.slicePart_ pl (wpAny_bind (HT.slicePart_ pu (wpAny_bind (wpAny_pure ?_)))))
  show wpAny _ _ (match Builtin.Slice.sliceAdjust none none (-1) (n : Int) with | (l, u) => pure (l, (-1 : Int), Builtin.Slice.slicePlaces l u (-1))) _ _ s
  rw [adjust_back]
  show wpAny _ _ (pure ((n : Int) - 1, (-1 : Int), Builtin.Slice.slicePlaces ((n : Int) - 1) (-1) (-1))) _ _ s
  rw [places_back]
  exact wpAny_pure h
theorem pick_back (xs : Array Value) : ((List.range xs.size).filterMap fun (m : Nat) => xs[(((xs.size : Int) - 1) + (m : Int) * (-1)).toNat]?).toArray = xs.toList.reverse.toArray := by
  have e : (List.range xs.size).filterMap (fun (m : Nat) => xs[(((xs.size : Int) - 1) + (m : Int) * (-1)).toNat]?) = ((List.range xs.size).map fun k => xs.size - 1 - k).filterMap (xs[·]?) := by
    rw [List.filterMap_map]
    have go : ∀ l : List Nat, (∀ m ∈ l, m < xs.size) → l.filterMap (fun (m : Nat) => xs[(((xs.size : Int) - 1) + (m : Int) * (-1)).toNat]?) = l.filterMap ((fun x => xs[x]?) ∘ fun k => xs.size - 1 - k) := fun l => by
      induction l with
      | nil => exact fun _ => rfl
      | cons m l ih =>
        intro h
        have hm := h m List.mem_cons_self
        have e1 : (((xs.size : Int) - 1) + (m : Int) * (-1)).toNat = xs.size - 1 - m := by omega
        rw [List.filterMap_cons, List.filterMap_cons, ih fun y hy => h y (List.mem_cons_of_mem _ hy)]
        rw [show ((fun x => xs[x]?) ∘ fun k => xs.size - 1 - k) m = xs[xs.size - 1 - m]? from rfl]
        rw [e1]
    exact go _ fun m hm => List.mem_range.mp hm
  rw [e, PySem.W.krv_range, List.filterMap_reverse, PySem.W.krv_all]
theorem tuple_back {t sl : Addr} {items : Array Value} {vl vu vs : Value} {Q : Value → Shared → Prop} (ht : IsTup s.heap t items) (hs : s.heap.IsSliceOf sl vl vu vs) (pl : IsPart vl none) (pu : IsPart vu none) (ps : IsPart vs (some (-1)))
    (h : Q (.ref s.heap.objs.size) { s with heap := s.heap.push { cls := .type "tuple", data := .seq items.toList.reverse.toArray } })
    (hsz : items.size ≤ sizeLine) : wpAny (model prog w) A (getItem (.ref t) (.ref sl)) Q E s := by
  have fit : sizeOk (.seq items.toList.reverse.toArray) := by
    show items.toList.reverse.toArray.size ≤ sizeLine
    rw [List.size_toArray, List.length_reverse, Array.length_toList]
    exact hsz
  obtain ⟨ob, h1, h2, h3⟩ := id hs
  have ty : s.TypeIs (.ref sl) "slice" := ⟨ob, h1, h2⟩
  unfold getItem
  try with_reducible refine wpAny_holding ?_
  first | refine wpAny_bind (wpAny_pure ?_) | skip
  refine wpAny_bind (wpAny_sequenceKey ht.typeIs (by decide) (wpAny_bind (wpAny_callSpecial?_slot (name := Str.ofString "__getitem__") ht.typeIs PyProof.Rows.slot_tuple_getitem (wpAny_call_entry PyProof.Rows.slot_tuple_getitem ht.typeIs PyProof.Rows.entry_tuple_getitem ?_ (PyProof.Rows.args_tuple_getitem _ _)))))
  show wpAny _ _ (Builtin.Tuple.tupleItemsOf (.ref t) >>= _) _ _ s
  refine wpAny_bind (tupleItemsOf_ ht (wpAny_bind (wpAny_typeOf ty ?_)))
  rw [if_pos (by decide)]
  refine wpAny_bind (applied_back hs pl pu ps ?_)
  have no : ¬ ((((items.size : Int) - 1) == 0 && (-1 : Int) == 1 && items.size == items.size) = true) := by
    intro q
    rw [Bool.and_eq_true, Bool.and_eq_true] at q
    exact absurd (eq_of_beq q.1.2) (by decide)
  show wpAny _ _ (if (((items.size : Int) - 1) == 0 && (-1 : Int) == 1 && items.size == items.size) = true then _ else _) _ _ s
  rw [if_neg no, pick_back]
  first
    | exact wpAny_bind (m := Builtin.Tuple.tupleExact _) (wpAny_newObj_type (wpAny_pure ⟨_, rfl, wpAny_pure h⟩) fit)
    | exact wpAny_bind (m := Builtin.Tuple.tupleExact _) (wpAny_newObj_type (wpAny_bind (wpAny_pure (wpAny_pure ⟨_, rfl, wpAny_pure h⟩))) fit)
    | exact wpAny_bind (wpAny_bind (m := Builtin.Tuple.tupleExact _) (wpAny_newObj_type (wpAny_pure (wpAny_pure ⟨_, rfl, wpAny_pure h⟩)) fit))
    | exact wpAny_bind (wpAny_bind (m := Builtin.Tuple.tupleExact _) (wpAny_newObj_type (wpAny_pure ⟨_, rfl, wpAny_pure h⟩) fit))
end
def tBk (K : PySem.W.Frag) (te : TE) : TE := fun σ H Q => te σ H fun x H1 => ∃ a xs, x = .ref a ∧ ((SqL K H1 a xs ∧ ∀ p, H1 p = none → Q (.ref p) (upd H1 p (.lst xs.reverse))) ∨ (SqT K H1 a xs ∧ ∀ p, H1 p = none → Q (.ref p) (upd H1 p (.tup xs.reverse))))
theorem pe_back {X : Cx} {e : Expr} {te : TE} {k : Nat} {p1 p2 p3 pos : Pos} (he : PE X e te) : PE X (.Subscript e (.Slice none none (some (.UnaryOp .USub (.Constant (.int 1) k p1) p2)) p3) pos) (tBk X.K te) := by
  refine ⟨fun pins sh σ H Q I h => Subscript_ (thn (he.run pins sh σ H _ I h) fun v s1 ⟨x, H1, I1, r1, a, xs, ex, q⟩ => ?_)⟩
  subst ex
  cases r1
  have st : PO X (some (.UnaryOp .USub (.Constant (.int 1) k p1) p2)) (tPart (tUn (rU fun i => .int (-i)) (tC (.int 1)))) := po_some (pe_un un_neg pe_int)
  refine wpAny_Slice (thn (po_none.run pins s1 σ H1 (fun u G => u = none ∧ G = H1) I1 ⟨rfl, rfl⟩) fun vl s2 ⟨l1, H2, I2, pl, e1, e2⟩ => ?_)
  subst e1 e2
  refine thn (po_none.run pins s2 σ H2 (fun u G => u = none ∧ G = H2) I2 ⟨rfl, rfl⟩) fun vu s3 ⟨l2, H3, I3, pu, e1, e2⟩ => ?_
  subst e1 e2
  refine thn (st.run pins s3 σ H3 (fun u G => u = some (-1) ∧ G = H3) I3 ⟨1, rfl, -1, rfl, rfl, rfl⟩) fun vs s4 ⟨l3, H4, I4, ps, e1, e2⟩ => ?_
  subst e1 e2
  have I5 : Inv X pins σ H4 { s4 with heap := s4.heap.push { cls := .type "slice", data := .fields #[vl, vu, vs] } } := I4.kept (t' := s4.toks) fun b ob q => Heap.get?_push_of_some _ q
  show wpAny (model X.prog X.w) X.A (subscriptTail e (.Slice none none (some (.UnaryOp .USub (.Constant (.int 1) k p1) p2)) p3) (.ref a) (.ref s4.heap.objs.size)) (EP X pins σ Q) X.xe { s4 with heap := s4.heap.push { cls := .type "slice", data := .fields #[vl, vu, vs] } }
  rcases q with ⟨hx, q⟩ | ⟨hx, q⟩
  · obtain ⟨its, r, ht, hz⟩ := I5.list hx
    have hl := r.length
    refine tail_any (ops := [.ref a, .ref s4.heap.objs.size]) ht.isList.typeIs (PySem.slot_list_getitem.lookup) ?_ (by with_unfolding_all rfl)
    refine wpAny_getItem_list_slice ht.isList (Heap.IsSliceOf.new _ vl vu vs) pl pu ps (by decide) ?_ (by rw [List.size_toArray]; omega)
    rw [PySem.W.krv_pick]
    exact ⟨.ref _, _, I5.laid (t' := s4.toks) (o := .lst xs.reverse) (fun b ob q => Heap.get?_push_of_some _ q) (Nat.le_refl _) ⟨by rw [List.length_reverse]; exact hz, _, 0, r.reverse, Heap.get?_push_size _ rfl⟩, rfl, q _ (I5.hok.fresh (Nat.le_refl _))⟩
  · obtain ⟨its, r, ht, hz⟩ := I5.tuple hx
    have hl := r.length
    refine tail_any (ops := [.ref a, .ref s4.heap.objs.size]) ht.typeIs (PyProof.Rows.slot_tuple_getitem.lookup) ?_ (by with_unfolding_all rfl)
    refine tuple_back ht (Heap.IsSliceOf.new _ vl vu vs) pl pu ps ?_ (by rw [List.size_toArray]; omega)
    refine ⟨.ref _, _, I5.laid (t' := s4.toks) (o := .tup xs.reverse) (fun b ob q => Heap.get?_push_of_some _ q) (Nat.le_refl _) ?_, rfl, q _ (I5.hok.fresh (Nat.le_refl _))⟩
    exact ⟨by rw [List.length_reverse]; exact hz, _, r.reverse, IsTup.new _ _⟩
section
variable {X : Cx} {e : Expr} {pos : Pos}
def backD : PyData → Option PyData
  | .list ds => some (.list ds.reverse)
  | .tuple ds => some (.tuple ds.reverse)
  | _ => none
@[simp] def tBkD (t : PTL) : PTE := fun s Q => t s fun x s' => ∃ d z, rd s' x = some d ∧ backD d = some z ∧ Q z s'
theorem de_rev {t : PTL} {k : Nat} {q1 q2 q3 : Pos} (h : DL X e t) : DE X (.Subscript e (.Slice none none (some (.UnaryOp .USub (.Constant (.int 1) k q1) q2)) q3) pos) (tBkD t) :=
  ⟨PE.weak (pe_back h.pe) fun σ H Q ⟨p, O, s, R, q⟩ => ⟨p, O, s, R, h.mono _ _ _ (fun x s' ⟨d, z, e1, e2, q⟩ v O' H' R' k a => by
      have ax := R'.read a e1
      unfold backD at e2
      split at e2
      · cases e2
        obtain ⟨b, xs, rfl, h1, h2⟩ := ax.lst
        refine ⟨b, xs, rfl, .inl ⟨SqL.of h1, fun l hl => ?_⟩⟩
        obtain ⟨f1, f2, f3⟩ := fin_lst R' hl h2.reverse
        exact q _ O' _ f1 (k.trans f2) f3
      · cases e2
        obtain ⟨b, xs, rfl, h1, h2⟩ := ax.tup
        refine ⟨b, xs, rfl, .inr ⟨h1.sq, fun l hl => ?_⟩⟩
        obtain ⟨f1, f2, f3⟩ := fin_tup R' hl h2.reverse
        exact q _ O' _ f1 (k.trans f2) f3
      · cases e2) q⟩,
    fun s Q Q' w q => h.mono _ _ _ (fun x s' ⟨d, z, e1, e2, q⟩ => ⟨d, z, e1, e2, w _ _ q⟩) q⟩
end
end PD
end
section
set_option Elab.async false
set_option linter.all false
set_option maxRecDepth 100000
set_option maxHeartbeats 4000000
/-! PD18: min, max of two numbers; how the readings of loops are shown. -/
namespace PD
open PySem PySem.Spec PyProof.Rows L2

def min2D : List PyData → Option PyData
  | [.int i, .int j] => some (.int (if j < i then j else i))
  | _ => none
def max2D : List PyData → Option PyData
  | [.int i, .int j] => some (.int (if j > i then j else i))
  | _ => none
section
variable {K : PySem.W.Frag} {X : Cx} {O : Ow} {H : Hp}
theorem AtEL.both {xs : List V} {d e : PyData} (h : AtEL K O H xs [d, e]) : ∃ v w, xs = [v, w] ∧ AtE K O H v d ∧ AtE K O H w e := by
  cases h with
  | cons h1 h =>
    cases h with
    | cons h2 h =>
      cases h
      exact ⟨_, _, rfl, h1, h2⟩
theorem call_min2P (hc : X.calm = true) : CallD X (.builtin "min") min2D := by
  intro pins sh σ H xs us Q I rv ⟨O, ds, z, a, e, k, _, _⟩
  unfold min2D at e
  split at e
  · cases e
    obtain ⟨v, w, rfl, a1, a2⟩ := a.both
    cases a1.int; cases a2.int
    exact call_min2 hc pins sh σ H _ us Q I rv ⟨_, _, rfl, k _ (.int _)⟩
  · cases e
theorem call_max2P (hc : X.calm = true) : CallD X (.builtin "max") max2D := by
  intro pins sh σ H xs us Q I rv ⟨O, ds, z, a, e, k, _, _⟩
  unfold max2D at e
  split at e
  · cases e
    obtain ⟨v, w, rfl, a1, a2⟩ := a.both
    cases a1.int; cases a2.int
    exact call_max2 hc pins sh σ H _ us Q I rv ⟨_, _, rfl, k _ (.int _)⟩
  · cases e
end

/-! ### loops -/
/-- a loop's reading by an invariant of the turn -/
theorem fRun_inv {g : PTG} {tb : PTS} {E : PEnds} {items : List PyData} (I : Nat → PSt → Prop)
    (step : ∀ (i : Nat) (d : PyData) (s : PSt) (N : PSt → Prop), items[i]? = some d → I i s → (∀ s', I (i + 1) s' → N s') → g d s fun s1 => tb (E.lp N) s1)
    (done : ∀ s, I items.length s → E.nx s) {s : PSt} (h : I 0 s) : fRun g tb E items s := by
  have go : ∀ (k i : Nat) (s : PSt), k = items.length - i → i ≤ items.length → I i s → fRun g tb E (items.drop i) s := fun k => by
    induction k with
    | zero =>
      intro i s hk hi h
      have e : i = items.length := by omega
      subst e
      rw [List.drop_length]
      exact done s h
    | succ k ih =>
      intro i s hk hi h
      have hlt : i < items.length := by omega
      rw [List.drop_eq_getElem_cons hlt]
      exact step i items[i] s _ (List.getElem?_eq_getElem hlt) h fun s' h' => ih (i + 1) s' (by omega) (by omega) h'
  exact go _ 0 s rfl (Nat.zero_le _) h
theorem tWh_inv {c : PTT} {tb : PTS} {E : PEnds} {s : PSt} (I : PSt → Prop) (m : PSt → Nat) (h : I s)
    (step : ∀ (s : PSt) (N : PSt → Prop), I s → (∀ s', I s' → m s' < m s → N s') → c s fun b s1 => if b = true then tb (E.lp N) s1 else E.nx s1) : tWh c tb E s :=
  ⟨fun k s => I s ∧ m s = k, ⟨m s, h, rfl⟩, fun k s1 ⟨h1, e⟩ => step s1 _ h1 fun s' h' lt => ⟨m s', by omega, h', rfl⟩⟩
/-- a comprehension that leaves the hand -/
theorem cRun_map {g : PTG} {tt : PTT} {te : PTE} {vs : List Nat} {G : List Sl} {hd : List PyData} (p : PyData → Bool) (f : PyData → PyData) :
    ∀ (ds : List PyData), (∀ d ∈ ds, ∀ (Y : PyData → List PyData → Prop) (N : List PyData → Prop), (p d = true → Y (f d) hd) → (p d = false → N hd) → g d ⟨blkG G vs, hd⟩ fun s1 => tt s1 fun b s2 => if b = true then te s2 fun y s3 => Y y s3.hd else N s2.hd) →
      ∀ (out : List PyData) (Q : List PyData → List PyData → Prop), Q (out ++ (ds.filter p).map f) hd → cRun g tt te vs G ds out hd Q
  | [], _, out, Q, q => by simpa [cRun] using q
  | d :: ds, h, out, Q, q => by
    unfold cRun
    refine h d List.mem_cons_self (fun y hd => cRun g tt te vs G ds (out ++ [y]) hd Q) (fun hd => cRun g tt te vs G ds out hd Q) (fun e => ?_) fun e => ?_
    · refine cRun_map p f ds (fun x hx => h x (List.mem_cons_of_mem _ hx)) _ Q ?_
      rw [List.filter_cons, if_pos e, List.map_cons] at q
      simpa using q
    · refine cRun_map p f ds (fun x hx => h x (List.mem_cons_of_mem _ hx)) _ Q ?_
      rw [List.filter_cons, if_neg (by rw [e]; exact Bool.false_ne_true)] at q
      exact q
/-- a comprehension without tests, over typed items, the hand left -/
theorem cRun_of {α : Type} {g : PTG} {te : PTE} {vs : List Nat} {G : List Sl} {hd : List PyData} (c : α → PyData) (f : α → PyData) (l : List α)
    (h : ∀ a ∈ l, ∀ (Y : PyData → List PyData → Prop), Y (f a) hd → g (c a) ⟨blkG G vs, hd⟩ fun s1 => te s1 fun y s3 => Y y s3.hd)
    (out : List PyData) (Q : List PyData → List PyData → Prop) (q : Q (out ++ l.map f) hd) : cRun g tYs te vs G (l.map c) out hd Q := by
  induction l generalizing out with
  | nil => simpa [cRun] using q
  | cons a l ih =>
    rw [List.map_cons]
    unfold cRun
    refine h a List.mem_cons_self (fun y hd => cRun g tYs te vs G (l.map c) (out ++ [y]) hd Q) (ih (fun x hx => h x (List.mem_cons_of_mem _ hx)) _ ?_)
    simpa using q
/-- .. with a test -/
theorem cRun_if {α : Type} {g : PTG} {tt : PTT} {te : PTE} {vs : List Nat} {G : List Sl} {hd : List PyData} (c : α → PyData) (p : α → Bool) (f : α → PyData) (l : List α)
    (h : ∀ a ∈ l, ∀ (Y : PyData → List PyData → Prop) (N : List PyData → Prop), (p a = true → Y (f a) hd) → (p a = false → N hd) → g (c a) ⟨blkG G vs, hd⟩ fun s1 => tt s1 fun b s2 => if b = true then te s2 fun y s3 => Y y s3.hd else N s2.hd)
    (out : List PyData) (Q : List PyData → List PyData → Prop) (q : Q (out ++ (l.filter p).map f) hd) : cRun g tt te vs G (l.map c) out hd Q := by
  induction l generalizing out with
  | nil => simpa [cRun] using q
  | cons a l ih =>
    rw [List.map_cons]
    unfold cRun
    refine h a List.mem_cons_self (fun y hd => cRun g tt te vs G (l.map c) (out ++ [y]) hd Q) (fun hd => cRun g tt te vs G (l.map c) out hd Q) (fun e => ?_) fun e => ?_
    · refine ih (fun x hx => h x (List.mem_cons_of_mem _ hx)) _ ?_
      rw [List.filter_cons, if_pos e, List.map_cons] at q
      simpa using q
    · refine ih (fun x hx => h x (List.mem_cons_of_mem _ hx)) _ ?_
      rw [List.filter_cons, if_neg (by rw [e]; exact Bool.false_ne_true)] at q
      exact q
/-- a comprehension that turns the hand: an invariant of what is made -/
theorem cRun_inv {g : PTG} {tt : PTT} {te : PTE} {vs : List Nat} {G : List Sl} {items : List PyData} {Q : List PyData → List PyData → Prop} (I : Nat → List PyData → List PyData → Prop)
    (step : ∀ (i : Nat) (d : PyData) (out hd : List PyData) (Y : PyData → List PyData → Prop) (N : List PyData → Prop), items[i]? = some d → I i out hd → (∀ y hd', I (i + 1) (out ++ [y]) hd' → Y y hd') → (∀ hd', I (i + 1) out hd' → N hd') →
      g d ⟨blkG G vs, hd⟩ fun s1 => tt s1 fun b s2 => if b = true then te s2 fun y s3 => Y y s3.hd else N s2.hd)
    (done : ∀ out hd, I items.length out hd → Q out hd) {hd : List PyData} (h : I 0 [] hd) : cRun g tt te vs G items [] hd Q := by
  have go : ∀ (k i : Nat) (out hd : List PyData), k = items.length - i → i ≤ items.length → I i out hd → cRun g tt te vs G (items.drop i) out hd Q := fun k => by
    induction k with
    | zero =>
      intro i out hd hk hi h
      have e : i = items.length := by omega
      subst e
      rw [List.drop_length]
      exact done out hd h
    | succ k ih =>
      intro i out hd hk hi h
      have hlt : i < items.length := by omega
      rw [List.drop_eq_getElem_cons hlt]
      unfold cRun
      exact step i items[i] out hd (fun y hd => cRun g tt te vs G (items.drop (i + 1)) (out ++ [y]) hd Q) (fun hd => cRun g tt te vs G (items.drop (i + 1)) out hd Q) (List.getElem?_eq_getElem hlt) h
        (fun y hd' h' => ih (i + 1) _ hd' (by omega) (by omega) h') fun hd' h' => ih (i + 1) _ hd' (by omega) (by omega) h'
  exact go _ 0 [] hd rfl (Nat.zero_le _) h
end PD
end
section
set_option Elab.async false
set_option linter.all false
set_option maxRecDepth 100000
set_option maxHeartbeats 4000000
/-! PM1: the data's operations on numbers, rows of numbers. -/
namespace PD
open PySem PySem.Spec PyProof.Rows L2

@[simp] theorem plain_int (i : Int) : (PyData.int i).plain = true := by simp [PyData.plain]
@[simp] theorem plain_bool (i : Bool) : (PyData.bool i).plain = true := by simp [PyData.plain]
@[simp] theorem plain_none : PyData.none.plain = true := by simp [PyData.plain]
@[simp] theorem plain_str (i : Str) : (PyData.str i).plain = true := by simp [PyData.plain]
@[simp] theorem plain_tuple (l : List PyData) : (PyData.tuple l).plain = PyData.plainAll l := by simp [PyData.plain]
@[simp] theorem plain_list (l : List PyData) : (PyData.list l).plain = PyData.plainAll l := by simp [PyData.plain]
@[simp] theorem plainAll_nil : PyData.plainAll [] = true := by simp [PyData.plainAll]
@[simp] theorem plainAll_cons (d : PyData) (l : List PyData) : PyData.plainAll (d :: l) = (d.plain && PyData.plainAll l) := by simp [PyData.plainAll]
theorem plainAll_of {l : List PyData} (h : ∀ d ∈ l, d.plain = true) : PyData.plainAll l = true := by
  induction l with
  | nil => simp
  | cons d l ih => simp [h d List.mem_cons_self, ih fun x hx => h x (List.mem_cons_of_mem _ hx)]
@[simp] theorem depth_int (i : Int) : (PyData.int i).depth = 0 := by simp [PyData.depth]
@[simp] theorem depth_bool (i : Bool) : (PyData.bool i).depth = 0 := by simp [PyData.depth]
@[simp] theorem depth_none : PyData.none.depth = 0 := by simp [PyData.depth]
@[simp] theorem depth_str (i : Str) : (PyData.str i).depth = 0 := by simp [PyData.depth]
@[simp] theorem depth_tuple (l : List PyData) : (PyData.tuple l).depth = PyData.depthAll l + 1 := by simp [PyData.depth]
@[simp] theorem depth_list (l : List PyData) : (PyData.list l).depth = PyData.depthAll l + 1 := by simp [PyData.depth]
@[simp] theorem depthAll_nil : PyData.depthAll [] = 0 := by simp [PyData.depthAll]
@[simp] theorem depthAll_cons (d : PyData) (l : List PyData) : PyData.depthAll (d :: l) = max d.depth (PyData.depthAll l) := by simp [PyData.depthAll]
theorem depthAll_le {l : List PyData} {n : Nat} (h : ∀ d ∈ l, d.depth ≤ n) : PyData.depthAll l ≤ n := by
  induction l with
  | nil => simp
  | cons d l ih =>
    have h1 := h d List.mem_cons_self
    have h2 := ih fun x hx => h x (List.mem_cons_of_mem _ hx)
    simp; omega
@[simp] theorem truthy_bool (b : Bool) : (PyData.bool b).truthy = b := by simp [PyData.truthy]
@[simp] theorem isInt_int (i : Int) : (PyData.int i).isInt = true := rfl
@[simp] theorem isInt_bool (i : Bool) : (PyData.bool i).isInt = true := rfl
@[simp] theorem isInt_none : PyData.none.isInt = false := rfl
@[simp] theorem isInt_str (i : Str) : (PyData.str i).isInt = false := rfl
@[simp] theorem isInt_tuple (l : List PyData) : (PyData.tuple l).isInt = false := rfl
@[simp] theorem isInt_list (l : List PyData) : (PyData.list l).isInt = false := rfl
@[simp] theorem isBool_int (i : Int) : (PyData.int i).isBool = false := rfl
@[simp] theorem isBool_bool (i : Bool) : (PyData.bool i).isBool = true := rfl
@[simp] theorem isBool_none : PyData.none.isBool = false := rfl
@[simp] theorem isBool_str (i : Str) : (PyData.str i).isBool = false := rfl
@[simp] theorem isBool_tuple (l : List PyData) : (PyData.tuple l).isBool = false := rfl
@[simp] theorem isBool_list (l : List PyData) : (PyData.list l).isBool = false := rfl
@[simp] theorem isTuple_int (i : Int) : (PyData.int i).isTuple = false := rfl
@[simp] theorem isTuple_bool (i : Bool) : (PyData.bool i).isTuple = false := rfl
@[simp] theorem isTuple_none : PyData.none.isTuple = false := rfl
@[simp] theorem isTuple_str (i : Str) : (PyData.str i).isTuple = false := rfl
@[simp] theorem isTuple_tuple (l : List PyData) : (PyData.tuple l).isTuple = true := rfl
@[simp] theorem isTuple_list (l : List PyData) : (PyData.list l).isTuple = false := rfl
@[simp] theorem isList_int (i : Int) : (PyData.int i).isList = false := rfl
@[simp] theorem isList_bool (i : Bool) : (PyData.bool i).isList = false := rfl
@[simp] theorem isList_none : PyData.none.isList = false := rfl
@[simp] theorem isList_str (i : Str) : (PyData.str i).isList = false := rfl
@[simp] theorem isList_tuple (l : List PyData) : (PyData.tuple l).isList = false := rfl
@[simp] theorem isList_list (l : List PyData) : (PyData.list l).isList = true := rfl

/-! ### compares -/
@[simp] theorem eqv_int (i j : Int) : PyData.eqv (.int i) (.int j) = decide (i = j) := by
  rw [PyData.eqv]
  by_cases h : i = j <;> simp [h]
@[simp] theorem eqv_bool (i j : Bool) : PyData.eqv (.bool i) (.bool j) = decide (i = j) := by
  rw [PyData.eqv]
  cases i <;> cases j <;> rfl
@[simp] theorem eqD_int (i j : Int) : eqD (.int i) (.int j) = some (.bool (decide (i = j))) := by
  simp [eqD, okEq]
@[simp] theorem eqD_bool (i j : Bool) : eqD (.bool i) (.bool j) = some (.bool (decide (i = j))) := by
  simp [eqD, okEq]
@[simp] theorem neD_bool (i j : Bool) : neD (.bool i) (.bool j) = some (.bool (!decide (i = j))) := by
  simp [neD, okEq]
@[simp] theorem neD_int (i j : Int) : neD (.int i) (.int j) = some (.bool (!decide (i = j))) := by
  simp [neD, okEq]
@[simp] theorem ltD_int (i j : Int) : ltD (.int i) (.int j) = some (.bool (decide (i < j))) := by
  simp [ltD, okLt, PySem.W.alike, PySem.W.dataLt_int]
@[simp] theorem gtD_int (i j : Int) : gtD (.int i) (.int j) = some (.bool (decide (j < i))) := by
  simp [gtD, okLt, PySem.W.alike, PySem.W.dataLt_int]
@[simp] theorem leD_int (i j : Int) : leD (.int i) (.int j) = some (.bool (decide (i ≤ j))) := by
  have e : (!decide (j < i)) = decide (i ≤ j) := by
    by_cases h : i ≤ j
    · simp [h, Int.not_lt.mpr h]
    · simp [h, Int.not_le.mp h]
  simp [leD, okLt, PySem.W.alike, PySem.W.dataLt_int, e]
@[simp] theorem geD_int (i j : Int) : geD (.int i) (.int j) = some (.bool (decide (j ≤ i))) := by
  have e : (!decide (i < j)) = decide (j ≤ i) := by
    by_cases h : j ≤ i
    · simp [h, Int.not_lt.mpr h]
    · simp [h, Int.not_le.mp h]
  simp [geD, okLt, PySem.W.alike, PySem.W.dataLt_int, e]
@[simp] theorem isD_none (d : PyData) : isD d .none = some (.bool (isNone d)) := rfl
@[simp] theorem isNone_none : isNone .none = true := rfl
@[simp] theorem isNone_int (i : Int) : isNone (.int i) = false := rfl
@[simp] theorem isNone_bool (i : Bool) : isNone (.bool i) = false := rfl
@[simp] theorem isNone_tuple (i : List PyData) : isNone (.tuple i) = false := rfl
@[simp] theorem isNone_list (i : List PyData) : isNone (.list i) = false := rfl
@[simp] theorem addD_int (i j : Int) : addD (.int i) (.int j) = some (.int (i + j)) := rfl
@[simp] theorem subD_int (i j : Int) : subD (.int i) (.int j) = some (.int (i - j)) := rfl
@[simp] theorem lenD_tuple (l : List PyData) : lenD [.tuple l] = some (.int l.length) := rfl
@[simp] theorem lenD_list (l : List PyData) : lenD [.list l] = some (.int l.length) := rfl
@[simp] theorem intD_int (i : Int) : intD [.int i] = some (.int i) := rfl
@[simp] theorem intD_bool (b : Bool) : intD [.bool b] = some (.int (if b = true then 1 else 0)) := by
  cases b <;> rfl
@[simp] theorem tupleD_list (l : List PyData) : tupleD [.list l] = some (.tuple l) := rfl
@[simp] theorem min2D_int (i j : Int) : min2D [.int i, .int j] = some (.int (if j < i then j else i)) := rfl

/-! ### numbers as data -/
def nD (n : Nat) : PyData := .int (n : Int)
def nT (l : List Nat) : PyData := .tuple (l.map nD)
def nL (l : List Nat) : PyData := .list (l.map nD)
@[simp] theorem plain_nD (n : Nat) : (nD n).plain = true := by simp [nD]
@[simp] theorem depth_nD (n : Nat) : (nD n).depth = 0 := by simp [nD]
@[simp] theorem plainAll_nD (l : List Nat) : PyData.plainAll (l.map nD) = true := plainAll_of fun d h => by
  obtain ⟨n, _, rfl⟩ := List.mem_map.mp h
  simp
@[simp] theorem depthAll_nD (l : List Nat) : PyData.depthAll (l.map nD) = 0 := Nat.le_zero.mp (depthAll_le fun d h => by
  obtain ⟨n, _, rfl⟩ := List.mem_map.mp h
  simp)
@[simp] theorem plainAll_ints (l : List Int) : PyData.plainAll (l.map PyData.int) = true := plainAll_of fun d h => by
  obtain ⟨n, _, rfl⟩ := List.mem_map.mp h
  simp
@[simp] theorem depthAll_ints (l : List Int) : PyData.depthAll (l.map PyData.int) = 0 := Nat.le_zero.mp (depthAll_le fun d h => by
  obtain ⟨n, _, rfl⟩ := List.mem_map.mp h
  simp)
@[simp] theorem any_nD (l : List Nat) (n : Nat) : ((l.map nD).any fun y => PyData.eqv y (nD n)) = decide (n ∈ l) := by
  induction l with
  | nil => simp
  | cons x l ih =>
    rw [List.map_cons, List.any_cons, ih]
    simp only [nD, eqv_int]
    by_cases h : (x : Int) = (n : Int)
    · have : n = x := by omega
      simp [h, this]
    · have : n ≠ x := by omega
      simp [h, this]
@[simp] theorem inD_nT (l : List Nat) (n : Nat) : inD (nD n) (.tuple (l.map nD)) = some (.bool (decide (n ∈ l))) := by
  simp only [inD, isIn, okIn, any_nD]; simp
@[simp] theorem inD_nL (l : List Nat) (n : Nat) : inD (nD n) (.list (l.map nD)) = some (.bool (decide (n ∈ l))) := by
  simp only [inD, isIn, okIn, any_nD]; simp
@[simp] theorem notInD_nT (l : List Nat) (n : Nat) : notInD (nD n) (.tuple (l.map nD)) = some (.bool (!decide (n ∈ l))) := by
  simp only [notInD, isIn, okIn, any_nD]; simp
@[simp] theorem notInD_nL (l : List Nat) (n : Nat) : notInD (nD n) (.list (l.map nD)) = some (.bool (!decide (n ∈ l))) := by
  simp only [notInD, isIn, okIn, any_nD]; simp
theorem boolsOf_map {α : Type} (f : α → Bool) (l : List α) : boolsOf (l.map fun a => .bool (f a)) = some (l.map f) := by
  induction l with
  | nil => rfl
  | cons x l ih => simp [boolsOf, ih]
@[simp] theorem allD_map {α : Type} (f : α → Bool) (l : List α) : allD [.list (l.map fun a => .bool (f a))] = some (.bool (l.all f)) := by
  simp only [allD, boolsOf_map, Option.map_some, List.all_map]
  rfl
@[simp] theorem anyD_map {α : Type} (f : α → Bool) (l : List α) : anyD [.list (l.map fun a => .bool (f a))] = some (.bool (l.any f)) := by
  simp only [anyD, boolsOf_map, Option.map_some, List.any_map]
  rfl
theorem ixN_nat {n k : Nat} (h : k < n) : ixN n (k : Int) = some k := by
  unfold ixN
  rw [if_pos (by omega), if_pos (by omega), Int.toNat_natCast]
theorem atI_nat {α : Type} {l : List α} {k : Nat} (h : k < l.length) : atI l (k : Int) = some l[k] := by
  unfold atI
  rw [ixN_nat h]
  simp [h]
theorem ixD_tuple {l : List PyData} {k : Nat} (h : k < l.length) : ixD (.tuple l) (.int (k : Int)) = some l[k] := atI_nat h
theorem ixD_list {l : List PyData} {k : Nat} (h : k < l.length) : ixD (.list l) (.int (k : Int)) = some l[k] := atI_nat h
theorem rngD_nat (n : Nat) : rngD 0 ((n : Int)).toNat = (List.range n).map nD := by
  unfold rngD
  rw [Int.toNat_natCast]
  apply List.map_congr_left
  intro a _
  simp [nD]
end PD
end
section
set_option Elab.async false
set_option linter.all false
set_option maxRecDepth 100000
set_option maxHeartbeats 4000000
/-! PM2: sorted rows of numbers; what is a permutation of numbers. -/
namespace PD
open PySem PySem.Spec PyProof.Rows L2
def unD : PyData → Nat
  | .int i => i.toNat
  | _ => 0
@[simp] theorem unD_nD (n : Nat) : unD (nD n) = n := by simp [unD, nD]
theorem nD_of_mem {l : List Nat} {d : PyData} (h : d ∈ l.map nD) : nD (unD d) = d := by
  obtain ⟨n, _, rfl⟩ := List.mem_map.mp h
  simp
theorem of_perm {out : List PyData} {l : List Nat} (h : out.Perm (l.map nD)) : ∃ o : List Nat, out = o.map nD ∧ o.Perm l := by
  refine ⟨out.map unD, ?_, ?_⟩
  · rw [List.map_map]
    have go : ∀ m : List PyData, (∀ d ∈ m, nD (unD d) = d) → m = m.map (nD ∘ unD) := fun m => by
      induction m with
      | nil => exact fun _ => rfl
      | cons d m ih =>
        intro hm
        rw [List.map_cons, ← ih fun x hx => hm x (List.mem_cons_of_mem _ hx)]
        show _ = nD (unD d) :: m
        rw [hm d List.mem_cons_self]
    exact go out fun d hd => nD_of_mem (h.subset hd)
  · have := h.map unD
    rw [List.map_map] at this
    have e : (unD ∘ nD) = id := by funext n; simp
    rw [e, List.map_id] at this
    exact this
theorem le_nD (a b : Nat) : PySem.W.dataLe false id (nD a) (nD b) = decide (a ≤ b) := by
  have e : PySem.W.dataLe false id (nD a) (nD b) = !PySem.W.dataLt (nD b) (nD a) := rfl
  rw [e, nD, nD, PySem.W.dataLt_int]
  by_cases h : a ≤ b
  · simp [h]
  · simp [h]; omega
theorem sorted_nD (l : List Nat) : ∃ m : List Nat, sortedD [.list (l.map nD)] = some (m.map nD) ∧ m.Perm l ∧ m.Pairwise (· ≤ ·) := by
  have ok : okSort (l.map nD) = true := by
    have h3 : (l.map nD).all (fun a => (l.map nD).all fun b => PySem.W.alike a b) = true := List.all_eq_true.mpr fun a ha => List.all_eq_true.mpr fun b hb => by
      obtain ⟨m, _, rfl⟩ := List.mem_map.mp ha
      obtain ⟨n, _, rfl⟩ := List.mem_map.mp hb
      simp [nD, PySem.W.alike]
    have h4 : (l.map nD).all nonTup = true := List.all_eq_true.mpr fun a ha => by
      obtain ⟨m, _, rfl⟩ := List.mem_map.mp ha
      rfl
    have h5 : (l.map nD).all (fun d => decide (d.depth ≤ 60)) = true := List.all_eq_true.mpr fun a ha => by
      obtain ⟨m, _, rfl⟩ := List.mem_map.mp ha
      simp
    unfold okSort
    rw [h3, h4, h5, plainAll_nD]
    simp
  have e : sortD (l.map nD) = (l.mergeSort fun a b => decide (a ≤ b)).map nD := (List.map_mergeSort fun a _ b _ => (le_nD a b).symm).symm
  refine ⟨l.mergeSort fun a b => decide (a ≤ b), by simp only [sortedD, ok, if_true, e], List.mergeSort_perm _ _, ?_⟩
  have := List.pairwise_mergeSort (le := fun a b : Nat => decide (a ≤ b)) (fun a b c h1 h2 => by simp at *; omega) (fun a b => by simp; omega) l
  exact this.imp fun h => by simpa using h
/-- the rising row of what stands in a row once -/
theorem sorted_rise {l : List Nat} (nd : l.Nodup) : ∃ m : List Nat, sortedD [.list (l.map nD)] = some (m.map nD) ∧ m.Pairwise (· < ·) ∧ ∀ x, x ∈ m ↔ x ∈ l := by
  obtain ⟨m, h1, h2, h3⟩ := sorted_nD l
  refine ⟨m, h1, ?_, fun x => h2.mem_iff⟩
  have nm : m.Nodup := h2.nodup_iff.mpr nd
  exact (h3.and nm).imp fun h => Nat.lt_of_le_of_ne h.1 h.2
end PD
end
section
set_option Elab.async false
set_option linter.all false
set_option maxRecDepth 100000
set_option maxHeartbeats 4000000
/-! PM3: rows of numbers by their order, the least of such; dicts with numbers for keys. -/
namespace PD
open PySem PySem.Spec PySem.SeqAt PySem.W PyProof.Rows L2
def lx : List Nat → List Nat → Bool
  | [], [] => false
  | [], _ :: _ => true
  | _ :: _, [] => false
  | x :: xs, y :: ys => if x = y then lx xs ys else decide (x < y)
theorem lx_toks : ∀ xs ys : List Nat, PyProof.Rows.lexLt itemOrd (PySem.W.keyToksAll (xs.map nD)) (PySem.W.keyToksAll (ys.map nD)) = lx xs ys := fun xs ys => by
  have e : ∀ l : List Nat, l.map nD = (l.map Int.ofNat).map PySem.W.Datum.toD := fun l => by rw [List.map_map]; rfl
  rw [e, e, PySem.W.lexAll_map]
  induction xs generalizing ys with
  | nil => cases ys <;> rfl
  | cons x xs ih =>
    cases ys with
    | nil => rfl
    | cons y ys =>
      have ih := ih ys
      show (if (x : Int) = (y : Int) then PySem.W.listLt (xs.map Int.ofNat) (ys.map Int.ofNat) else decide ((x : Int) < (y : Int))) = (if x = y then lx xs ys else decide (x < y))
      rw [ih]
      by_cases h : x = y
      · rw [if_pos h, if_pos (by omega)]
      · rw [if_neg h, if_neg (by omega)]
        exact decide_eq_decide.mpr (by omega)
theorem lt_nT (l m : List Nat) : PySem.W.dataLt (nT l) (nT m) = lx l m := by
  rw [nT, nT, PySem.W.dataLt_tuple, lx_toks]
theorem lx_self : ∀ l : List Nat, lx l l = false
  | [] => rfl
  | x :: l => by rw [lx, if_pos rfl]; exact lx_self l
theorem lx_trans : ∀ a b c : List Nat, lx a b = true → lx b c = true → lx a c = true
  | [], [], _, h, _ => by cases h
  | [], _ :: _, [], _, h => by cases h
  | [], _ :: _, _ :: _, _, _ => rfl
  | _ :: _, [], _, h, _ => by cases h
  | _ :: _, _ :: _, [], _, h => by cases h
  | x :: a, y :: b, z :: c, h, g => by
    rw [lx] at h g ⊢
    by_cases e1 : x = y
    · rw [if_pos e1] at h
      by_cases e2 : y = z
      · rw [if_pos e2] at g
        rw [if_pos (by omega)]
        exact lx_trans a b c h g
      · rw [if_neg e2] at g
        rw [if_neg (by omega)]
        simp at g ⊢; omega
    · rw [if_neg e1] at h
      by_cases e2 : y = z
      · rw [if_neg (by omega)]
        simp at h ⊢; omega
      · rw [if_neg e2] at g
        simp at h g
        rw [if_neg (by omega)]
        simp; omega
theorem lx_total : ∀ a b : List Nat, lx a b = false → lx b a = false → a = b
  | [], [], _, _ => rfl
  | [], _ :: _, h, _ => by cases h
  | _ :: _, [], _, h => by cases h
  | x :: a, y :: b, h, g => by
    rw [lx] at h g
    by_cases e1 : x = y
    · rw [if_pos e1] at h
      rw [if_pos e1.symm] at g
      rw [e1, lx_total a b h g]
    · rw [if_neg e1] at h
      rw [if_neg (fun z => e1 z.symm)] at g
      simp at h g
      omega
theorem lx_down {u v w : List Nat} (h : lx u v = false) (g : lx w u = false) : lx w v = false := by
  cases e : lx w v with
  | false => rfl
  | true =>
    cases e2 : lx v u with
    | true => rw [lx_trans w v u e e2] at g; cases g
    | false => rw [lx_total u v h e2] at g; rw [g] at e; cases e
structure Least (P : List Nat → Prop) (r : List Nat) : Prop where
  mem : P r
  le : ∀ r', P r' → lx r' r = false
theorem Least.uniq {P : List Nat → Prop} {r s : List Nat} (h : Least P r) (g : Least P s) : r = s := lx_total _ _ (g.le r h.mem) (h.le s g.mem)
/-- the same further on: neither is a beginning of the other -/
theorem lx_app : ∀ (a b s t : List Nat), lx a b = false → (b <+: a → b = a) → (b = a → lx s t = false) → lx (a ++ s) (b ++ t) = false
  | [], [], s, t, _, _, k => k rfl
  | [], _ :: _, _, _, h, _, _ => by cases h
  | x :: a, [], _, _, _, p, _ => by cases p (List.nil_prefix)
  | x :: a, y :: b, s, t, h, p, k => by
    rw [lx] at h
    show lx (x :: (a ++ s)) (y :: (b ++ t)) = false
    rw [lx]
    by_cases e : x = y
    · subst e
      rw [if_pos rfl] at h ⊢
      refine lx_app a b s t h (fun q => ?_) fun q => k (by rw [q])
      have := p (List.prefix_cons_inj x |>.mpr q)
      exact (List.cons.inj this).2
    · rw [if_neg e] at h ⊢
      exact h
def mnF (x : List Nat) (l : List (List Nat)) : List Nat := l.foldl (fun a y => if lx y a = true then y else a) x
def mnL : List (List Nat) → List Nat
  | [] => []
  | x :: l => mnF x l
theorem mnF_ok : ∀ (l : List (List Nat)) (x : List Nat), (mnF x l = x ∨ mnF x l ∈ l) ∧ lx x (mnF x l) = false ∧ ∀ y ∈ l, lx y (mnF x l) = false
  | [], x => ⟨.inl rfl, lx_self x, fun y h => nomatch h⟩
  | y :: l, x => by
    have down : ∀ {u v w : List Nat}, lx u v = false → lx w u = false → lx w v = false := fun {u v w} h g => by
      cases e : lx w v with
      | false => rfl
      | true =>
        cases e2 : lx v u with
        | true => rw [lx_trans w v u e e2] at g; cases g
        | false => rw [lx_total u v h e2] at g; rw [g] at e; cases e
    obtain ⟨h1, h2, h3⟩ := mnF_ok l (if lx y x = true then y else x)
    show (mnF (if lx y x = true then y else x) l = x ∨ mnF (if lx y x = true then y else x) l ∈ y :: l) ∧ lx x (mnF (if lx y x = true then y else x) l) = false ∧ ∀ z ∈ y :: l, lx z (mnF (if lx y x = true then y else x) l) = false
    by_cases e : lx y x = true
    · rw [if_pos e] at h1 h2 h3 ⊢
      have xy : lx x y = false := by
        cases q : lx x y with
        | false => rfl
        | true => have := lx_trans _ _ _ e q; rw [lx_self] at this; cases this
      refine ⟨.inr ?_, down h2 xy, fun z hz => ?_⟩
      · rcases h1 with q | q
        · rw [q]; exact List.mem_cons_self
        · exact List.mem_cons_of_mem _ q
      · rcases List.mem_cons.mp hz with q | q
        · rw [q]; exact h2
        · exact h3 z q
    · rw [if_neg e] at h1 h2 h3 ⊢
      refine ⟨?_, h2, fun z hz => ?_⟩
      · rcases h1 with q | q
        · exact .inl q
        · exact .inr (List.mem_cons_of_mem _ q)
      · rcases List.mem_cons.mp hz with q | q
        · rw [q]; exact down h2 (by simpa using e)
        · exact h3 z q
theorem mnL_ok {l : List (List Nat)} (h : l ≠ []) : mnL l ∈ l ∧ ∀ y ∈ l, lx y (mnL l) = false := by
  cases l with
  | nil => exact absurd rfl h
  | cons x l =>
    obtain ⟨h1, h2, h3⟩ := mnF_ok l x
    refine ⟨?_, fun y hy => ?_⟩
    · rcases h1 with q | q
      · show mnF x l ∈ _
        rw [q]; exact List.mem_cons_self
      · exact List.mem_cons_of_mem _ q
    · rcases List.mem_cons.mp hy with q | q
      · rw [q]; exact h2
      · exact h3 y q
theorem minD_nT (l : List (List Nat)) : ∀ x, PySem.W.minD (nT x) (l.map nT) = nT (mnF x l) := by
  unfold PySem.W.minD mnF
  induction l with
  | nil => exact fun _ => rfl
  | cons y l ih =>
    intro x
    rw [List.map_cons, List.foldl_cons, List.foldl_cons]
    have e : (if PySem.W.dataLt (nT y) (nT x) = true then nT y else nT x) = nT (if lx y x = true then y else x) := by
      rw [lt_nT]; split <;> rfl
    rw [e]
    exact ih _
theorem alikeAll_nD : ∀ xs ys : List Nat, PySem.W.alikeAll (xs.map nD) (ys.map nD) = true
  | [], _ => by rw [List.map_nil, PySem.W.alikeAll]
  | _ :: _, [] => by rw [List.map_nil, List.map_cons, PySem.W.alikeAll]
  | x :: xs, y :: ys => by
    rw [List.map_cons, List.map_cons, PySem.W.alikeAll, alikeAll_nD xs ys]
    simp [nD, PySem.W.alike]
theorem alike_nT (l m : List Nat) : PySem.W.alike (nT l) (nT m) = true := by
  simp only [nT, PySem.W.alike]; exact alikeAll_nD l m
theorem okMin_nT {l : List (List Nat)} (h : l ≠ []) : okMin (l.map nT) = true := by
  cases l with
  | nil => exact absurd rfl h
  | cons x l =>
    have h1 : PyData.plainAll ((x :: l).map nT) = true := plainAll_of fun d h => by
      obtain ⟨l, _, rfl⟩ := List.mem_map.mp h
      simp [nT]
    have h2 : PyData.depthAll ((x :: l).map nT) ≤ 60 := depthAll_le fun d h => by
      obtain ⟨l, _, rfl⟩ := List.mem_map.mp h
      simp [nT]
    have h3 : ((x :: l).map nT).all (fun a => ((x :: l).map nT).all fun b => PySem.W.alike a b) = true := List.all_eq_true.mpr fun a ha => List.all_eq_true.mpr fun b hb => by
      obtain ⟨m, _, rfl⟩ := List.mem_map.mp ha
      obtain ⟨n, _, rfl⟩ := List.mem_map.mp hb
      exact alike_nT m n
    have h4 : ((x :: l).map nT).all (fun a => !(isNone a)) = true := List.all_eq_true.mpr fun a ha => by
      obtain ⟨m, _, rfl⟩ := List.mem_map.mp ha
      rfl
    show (PyData.plainAll ((x :: l).map nT) && ((x :: l).map nT).all (fun a => ((x :: l).map nT).all fun b => PySem.W.alike a b) && ((x :: l).map nT).all (fun a => !(isNone a)) && decide (PyData.depthAll ((x :: l).map nT) ≤ 60)) = true
    rw [h1, h3, h4, decide_eq_true h2]
    rfl
theorem minOf_nT {l : List (List Nat)} (h : l ≠ []) : minOfD [.list (l.map nT)] = some (nT (mnL l)) := by
  cases l with
  | nil => exact absurd rfl h
  | cons x l =>
    have := okMin_nT (l := x :: l) (by simp)
    unfold minOfD
    rw [List.map_cons] at this ⊢
    simp only [this, if_true, minD_nT]
    rfl
/-! ### a dict with numbers for keys -/
theorem same_nD (m n : Nat) : sameK (nD m) (nD n) ↔ n = m := by
  have h := @same_k (.inl (m : Int)) (.inl (n : Int))
  have h : sameK (nD m) (nD n) ↔ (Sum.inl (n : Int) : Key) = Sum.inl (m : Int) := h
  rw [h]
  constructor
  · intro e; injection e with e; omega
  · intro e; rw [e]
def dN (o : List Nat) (f : Nat → PyData) : List (PyData × PyData) := o.map fun i => (nD i, f i)
theorem look_dN (o : List Nat) (f : Nat → PyData) (x : Nat) : lookD (nD x) (dN o f) = if x ∈ o then some (f x) else none := by
  induction o with
  | nil => rfl
  | cons y o ih =>
    show (if sameK (nD x) (nD y) then some (f y) else lookD (nD x) (dN o f)) = _
    rw [ih]
    by_cases h : y = x
    · rw [if_pos ((same_nD x y).mpr h), h, if_pos List.mem_cons_self]
    · rw [if_neg fun z => h ((same_nD x y).mp z)]
      by_cases q : x ∈ o
      · rw [if_pos q, if_pos (List.mem_cons_of_mem _ q)]
      · rw [if_neg q, if_neg fun z => q ((List.mem_cons.mp z).resolve_left fun e => h e.symm)]
theorem ins_dN {o : List Nat} {f : Nat → PyData} {x : Nat} {d : PyData} (h : x ∉ o) : insD (nD x) d (dN o f) = dN o f ++ [(nD x, d)] := by
  unfold insD
  rw [if_neg]
  intro e
  obtain ⟨q, hq, e⟩ := List.any_eq_true.mp e
  obtain ⟨y, hy, rfl⟩ := List.mem_map.mp hq
  have := (same_nD x y).mp (by simpa using e)
  subst this
  exact h hy
theorem fits_nD (x : Nat) : keyFits false (nD x) = true := rfl
theorem ix_dN {o : List Nat} {f : Nat → PyData} {x : Nat} (h : x ∈ o) : ixD (dicD false (dN o f)) (nD x) = some (f x) := by
  show (if keyFits false (nD x) = true then lookD (nD x) (dN o f) else none) = _
  rw [if_pos (fits_nD x), look_dN, if_pos h]
end PD
end
section
set_option Elab.async false
set_option linter.all false
set_option maxRecDepth 100000
set_option maxHeartbeats 4000000
/-! PD19: the law's own frame: the hand is made of the script. -/
namespace PD
open PySem PySem.Spec PyProof.Rows L2

def absI (n : Int) : Int := if n < 0 then -n else n
/-- the hand is made -/
def spHand (K : PySem.W.Frag) : Sp := fun vs H Q _ => ∃ (a : Addr) (ns : List Int), vs = [.ref a] ∧ SqL K H a (ns.map V.int) ∧ ns.length ≤ 63 ∧
  ∀ (H' : Hp) (b c : Addr) (z : Int), H' b = some (.lst [.ref c, .int 0, .int 0, .int z, .int 0]) → H' c = some (.lst ((ns.map absI).map V.int)) → 0 ≤ z → Q (.ref b) H'
def tAbs2 : PTE := tCl absD (tCnL (tOf (tCl intD (tCnL (tSl 2) tNlL))) tNlL)
def tHandRet (c m : Int) : PTS := (tSq (tRt false (tLs (tCn (tVr 1) (tCn (tK (.int 0)) (tCn (tK (.int 0)) (tCn (tBin addD (tOf (tK (.int c))) (tOf (tBin mulD (tOf (tK (.int m))) (tOf (tCl lenD (tCnL (tSl 1) tNlL)))))) (tCn (tK (.int 0)) tNl)))))))
  tNx)
theorem cutV_all {xs : List V} (h : xs.length ≤ 63) : L2.cutV xs none (some 63) = xs := by
  unfold L2.cutV
  rw [HT.sIx_none, show (some (63 : Int)) = some ((63 : Nat) : Int) from rfl, HT.sIx_nat, Nat.min_eq_right h, List.drop_zero, Nat.sub_zero, List.take_of_length_le (Nat.le_refl _)]
section
variable {K : PySem.W.Frag} {O : Ow} {H : Hp}
theorem Rl.bare {σ : L2.St} {G : List Sl} (hl : G.length = σ.length) (hs : ∀ (i : Nat) (S : Sl), G[i]? = some S → SlOk K ⟨none, H, fun _ => False⟩ (fun _ => False) H σ[i]? S) (hm : ∀ (i : Nat) (d : PyData), G[i]? ≠ some (.m d)) : Rl K ⟨none, H, fun _ => False⟩ (fun _ => False) σ H ⟨G, []⟩ :=
  ⟨hl, hs, fun i _ d _ _ e => absurd e (hm i d), (fun _ e => nomatch e), fun _ _ e _ => e, fun _ z => False.elim z, fun _ z => z, fun _ z => False.elim z, fun _ z => False.elim z⟩
theorem atL_ints (l : List Int) : AtL K O H (l.map V.int) (l.map PyData.int) := by
  induction l with
  | nil => exact .nil
  | cons x l ih => exact .cons (.int _) ih
theorem kp_all {O' : Ow} {H' : Hp} (k : Kp (fun _ => False) H O' H') : ∀ b o, H b = some o → H' b = some o := fun b o e => k.st b o e fun z => z
theorem hand_read {D : Ends} {Q : VK} {E : XK} {a : Addr} {c m : Int} (h : spHand K [.ref a] H Q E) (hD : D.rt = Q) (c0 : 0 ≤ c := by decide) (m0 : 0 ≤ m := by decide) :
    tSeq (tAsg (tLc (iList K (L2.tSl (rSlL K) (tVar 0) tNoPart (tPart (tC (.int 63))))) (gName 2) tYes (lift K tAbs2) [2]) (gName 1)) (liftS K (tHandRet c m)) D [some (.ref a), none, none] H := by
  obtain ⟨a', ns, ev, hs, hl, q⟩ := h
  cases ev
  refine ⟨.ref a, rfl, 63, rfl, a, ns.map V.int, rfl, hs, fun p hp => ?_⟩
  rw [cutV_all (by simpa using hl)]
  refine ⟨p, rfl, ⟨_, SqL.of upd_same⟩, fun d hd => ?_⟩
  have pd : p ≠ d := fun e => by rw [e, upd_same] at hd; cases hd
  refine lc_list (xs := ns.map V.int) (fun i H' => H' p = some (.lst (ns.map V.int)) ∧ H' d = some (.lst (((ns.take i).map absI).map V.int))) ⟨by rw [upd_ne pd, upd_same], by rw [upd_same]; rfl⟩ (fun i H' _ w => SqL.of w.1) (fun i x H' hx w => ?_) fun H' w => ?_
  · have hi : i < ns.length := by simpa using (List.getElem?_eq_some_iff.mp hx).1
    rw [List.getElem?_map, List.getElem?_eq_getElem hi] at hx
    cases hx
    refine ⟨rfl, ?_⟩
    simp only [L2.tYes, if_true]
    refine ⟨_, _, ⟨[.no, .no, .v (.int ns[i])], []⟩, Rl.bare rfl (fun j S e => ?_) (fun j e z => ?_), ?_⟩
    · match j, e with
      | 0, e => cases e; trivial
      | 1, e => cases e; trivial
      | 2, e => cases e; exact ⟨_, rfl, .int _⟩
      | j + 3, e => cases e
    · match j, z with
      | 0, z => cases z
      | 1, z => cases z
      | 2, z => cases z
      | j + 3, z => cases z
    · simp [tAbs2, absD]
      intro v O' H2 R2 k2 av
      cases av
      refine ⟨_, kp_all k2 d _ w.2, by simp [sizeLine]; omega, by rw [upd_ne pd]; exact kp_all k2 p _ w.1, ?_⟩
      have e3 : List.take (i + 1) (List.map (V.int ∘ absI) ns) = List.map V.int (List.map absI (List.take i ns)) ++ [V.int (absI ns[i])] := by
        rw [List.map_map, ← List.map_take, List.take_succ_eq_append_getElem hi, List.map_append]
        rfl
      rw [upd_same, e3]
      rfl
  · have e : (ns.map V.int).length = ns.length := by simp
    rw [e, List.take_of_length_le (Nat.le_refl _)] at w
    refine ⟨_, _, ⟨[.no, .v (.list ((ns.map absI).map .int)), .no], []⟩, Rl.bare rfl (fun j S e => ?_) (fun j e z => ?_), ?_⟩
    · match j, e with
      | 0, e => cases e; trivial
      | 1, e => cases e; exact ⟨_, rfl, .lst ⟨fun z => z, w.2⟩ (atL_ints _)⟩
      | 2, e => cases e; trivial
      | j + 3, e => cases e
    · match j, z with
      | 0, z => cases z
      | 1, z => cases z
      | 2, z => cases z
      | j + 3, z => cases z
    · simp [tHandRet]
      have m1 : mulD (.int m) (.int (ns.length : Int)) = some (.int (m * (ns.length : Int))) := by
        have : CMul m (ns.length : Int) := by unfold CMul; omega
        simp [mulD, this]
      refine ⟨_, m1, _, rfl, by simp [sizeLine], fun v σ' O' H2 R2 k2 av => ?_⟩
      have av : At K O' H2 v (.list [.list (ns.map (PyData.int ∘ absI)), .int 0, .int 0, .int (c + m * (ns.length : Int)), .int 0]) := av
      rw [hD]
      cases av with
      | lst s1 l1 =>
        cases l1 with
        | cons a1 l1 =>
          cases a1 with
          | lst s2 l2 =>
            cases l1 with
            | cons a2 l1 =>
              cases a2
              cases l1 with
              | cons a3 l1 =>
                cases a3
                cases l1 with
                | cons a4 l1 =>
                  cases a4
                  cases l1 with
                  | cons a5 l1 =>
                    cases a5
                    cases l1
                    rw [← List.map_map] at l2
                    have ex : ∀ (l : List Int) (xs : List V), AtL K O' H2 xs (l.map PyData.int) → xs = l.map V.int := fun l => by
                      induction l with
                      | nil => intro xs h; cases h; rfl
                      | cons y l ih => intro xs h; cases h with | cons h1 h2 => cases h1; rw [ih _ h2]; rfl
                    exact q H2 _ _ _ s1.2 (by rw [s2.2, ex _ _ l2]) (by have := Int.mul_nonneg m0 (Int.natCast_nonneg ns.length); omega)
end
end PD
end
section
set_option Elab.async false
set_option linter.all false
set_option maxRecDepth 100000
set_option maxHeartbeats 4000000
/-! PD20: the law's first statement: hand = _law_hand(script). -/
namespace PD
open PySem PySem.Spec PyProof.Rows L2
structure HandD (hd : List PyData) : Prop where
  ex : ∃ (cells : List Int) (i : Nat) (c s k : Int), hd = [.list (cells.map .int), .int i, .int c, .int s, .int k] ∧ (∀ x ∈ cells, 0 ≤ x) ∧ 0 ≤ c ∧ 0 ≤ s ∧ 0 ≤ k
/-- what a law is to end with -/
def lawEnds : PEnds := ⟨fun _ => False, fun fr d _ => fr = false ∧ d = .bool true, fun _ => False, fun _ => False⟩
def spLaw (K : PySem.W.Frag) : Sp := fun vs H Q _ => ∃ (a : Addr) (ns : List Int), vs = [.ref a] ∧ SqL K H a (ns.map V.int) ∧ ns.length ≤ 63 ∧ ∀ H', Q (.bl true) H'
theorem law_read {K : PySem.W.Frag} {H : Hp} {D : Ends} {Q : VK} {E : XK} {a : Addr} {ns : List Int} {u : PTS} {i m : Nat} (hu : MonoS u) (hs : SqL K H a (ns.map V.int)) (hl : ns.length ≤ 63) (hD : D.rt = Q) (hQ : ∀ H', Q (.bl true) H') (hi : i < m + 1)
    (hr : ∀ hd, HandD hd → u lawEnds ⟨(List.replicate (m + 1) .no).set i .h, hd⟩) :
    tSeq (tAsg (tCall (spHand K) [] E (tCons (tVar 0) L2.tNil)) (gName i)) (liftS K u) D (some (.ref a) :: List.replicate m none) H := by
  refine ⟨.ref a, rfl, a, ns, rfl, hs, hl, fun H' b c z hb hc hz => ?_⟩
  have bc : c ≠ b := fun e => by
    rw [e, hb] at hc
    injection hc with hc
    injection hc with hc
    cases ns with
    | nil => cases hc
    | cons x l => injection hc with h1 _; cases h1
  have get : ∀ (j : Nat) (S : Sl), ((List.replicate (m + 1) Sl.no).set i .h)[j]? = some S → S = .no ∨ (S = .h ∧ j = i) := fun j S e => by
    by_cases q : i = j
    · subst q
      rw [List.getElem?_set_self (by simpa using hi)] at e
      cases e; exact .inr ⟨rfl, rfl⟩
    · rw [List.getElem?_set_ne q, List.getElem?_replicate] at e
      split at e
      · cases e; exact .inl rfl
      · cases e
  show liftS K u D ((some (.ref a) :: List.replicate m none).set i (some (.ref b))) H'
  refine ⟨⟨some b, H', fun x => x = b⟩, fun x => x = b, ⟨(List.replicate (m + 1) .no).set i .h, [.list ((ns.map absI).map .int), .int 0, .int 0, .int z, .int 0]⟩,
    ⟨by simp, fun j S e => ?_, fun j l d d' x e1 _ _ _ => ?_, fun x e => ?_, fun x o e _ => e, fun x e => ?_, fun x e => e, fun x e => ?_, fun x e _ => e⟩, hu _ lawEnds _ ⟨fun s' z => False.elim z, fun fr d s' ⟨e1, e2⟩ v σ' O' H2 R2 k2 av => ?_, fun s' z => False.elim z, fun s' z => False.elim z⟩ (hr _ ⟨ns.map absI, 0, 0, z, 0, rfl, fun x hx => ?_, Int.le_refl _, hz, Int.le_refl _⟩)⟩
  · rcases get j S e with q | ⟨q1, q2⟩
    · subst q; trivial
    · subst q1 q2
      exact ⟨b, rfl, by rw [List.getElem?_set_self (by simpa using hi)]⟩
  · rcases get j _ e1 with q | ⟨q, _⟩ <;> cases q
  · cases e
    exact ⟨rfl, _, hb, .cons (.lst ⟨bc, hc⟩ (atL_ints _)) (.cons (.int _) (.cons (.int _) (.cons (.int _) (.cons (.int _) .nil))))⟩
  · have e : x = b := e
    rw [e, hb]; exact True.intro
  · have e : x = b := e
    show H' x ≠ none
    rw [e, hb]; exact fun z => nomatch z
  · subst e1 e2
    rw [hD]
    have av : At K O' H2 v (.bool true) := av
    cases av
    exact hQ H2
  · obtain ⟨n, _, rfl⟩ := List.mem_map.mp hx
    unfold absI
    split <;> omega
end PD
end
section
set_option Elab.async false
set_option linter.all false
set_option maxRecDepth 100000
set_option maxHeartbeats 4000000
/-! PD21: repr(x). -/
namespace PD
open PySem PySem.Spec PyProof.Rows L2
/-- repr of data: what the kit shows -/
def okShow (d : PyData) : Bool := (std d).showable && (!(std d).hasDict || noL d) && decide ((std d).depth ≤ 60) && decide ((std d).shown.length ≤ sizeLine)
def reprD : List PyData → Option PyData
  | [d] => if okShow d = true then some (.str (std d).shown) else none
  | _ => none
theorem call_reprP {X : Cx} (hg : X.A.guards = some []) (hu : X.A.units + 64 < cLine) : CallD X (.builtin "repr") reprD := by
  intro pins sh σ H xs us Q I rv h
  obtain ⟨O, ds, z, a, e, k, _, _⟩ := h
  unfold reprD at e
  split at e
  · split at e
    · rename_i d hk
      cases e
      obtain ⟨v, rfl, av⟩ := a.one
      obtain ⟨u, rfl, r⟩ : ∃ u, us = [u] ∧ RelV v u := by
        cases rv with
        | cons r1 r2 => cases r2; exact ⟨_, rfl, r1⟩
      have av := av.at0
      unfold okShow at hk
      simp only [Bool.and_eq_true, Bool.or_eq_true, decide_eq_true_eq, Bool.not_eq_true'] at hk
      obtain ⟨⟨⟨h1, h2⟩, h3⟩, h4⟩ := hk
      obtain ⟨as, hr, hn⟩ := At.readsS I d v u av r
      have hsm : (std d).hasDict = true → sysModules ∉ as := fun z hm => by
        rcases h2 with q | q
        · rw [q] at z; cases z
        · have := hn q _ hm
          simp at this
      have fin : ∀ (t : Str) h' tk, t = (std d).shown → (∀ b o, sh.heap.get? b = some o → h'.get? b = some o) → ∀ u', EP X pins σ Q (.str t u') { sh with heap := h', toks := tk } := fun t h' tk et hk u' =>
        ⟨.str t, H, I.kept hk, ⟨_, rfl⟩, by rw [et]; exact k _ (.str _)⟩
      have same : ∀ (t : Str) tk, t = (std d).shown → ∀ u', EP X pins σ Q (.str t u') { sh with toks := tk } := fun t tk et u' => fin t sh.heap tk et (fun _ _ e => e) u'
      cases d with
      | none => cases av; cases r; exact PySem.P.repr_of_none (same _ _ (by rw [std]; simp [PyData.shown]) _)
      | bool b => cases av; cases r; exact PySem.P.repr_of_bool (same _ _ (by rw [std]; simp [PyData.shown]) _)
      | int i =>
        cases av
        obtain ⟨t, rfl⟩ := r
        exact PySem.P.repr_of_int (by rw [std] at h1; simpa [PyData.showable] using h1) (same _ _ (by rw [std]; simp [PyData.shown]) _)
      | str x =>
        cases av
        obtain ⟨t, rfl⟩ := r
        rw [std] at h4
        exact PySem.P.repr_of_str (same _ _ (by rw [std]; simp [PyData.shown]) _) (by simpa [PyData.shown] using h4)
      | list ds =>
        cases av
        cases r
        exact repr_of_reads' hr h1 hsm hg (by omega) (fun _ _ e => e) (fun h' u' tk hk => fin _ h' tk rfl hk u') h4
      | tuple ds =>
        cases av
        cases r
        exact repr_of_reads' hr h1 hsm hg (by omega) (fun _ _ e => e) (fun h' u' tk hk => fin _ h' tk rfl hk u') h4
      | dict ds =>
        cases av <;> cases r <;> exact repr_of_reads' hr h1 hsm hg (by omega) (fun _ _ e => e) (fun h' u' tk hk => fin _ h' tk rfl hk u') h4
    · cases e
  · cases e
theorem bt_repr : bootBuiltins "repr" = some (.builtin "repr") := by decide +kernel
end PD
end
section
set_option Elab.async false
set_option linter.all false
set_option maxRecDepth 100000
set_option maxHeartbeats 4000000
/-! PD22: comprehensions over a name that may be a dict; locks. -/
namespace PD
open PySem PySem.Spec PyProof.Rows L2

/-- what data reads stays: a lock laid or taken -/
structure Lk (H H' : Hp) : Prop where
  l : ∀ b xs, H b = some (.lst xs) → H' b = some (.lst xs)
  t : ∀ b xs, H b = some (.tup xs) → H' b = some (.tup xs)
  k : ∀ b kvs, Rd H b (.dK kvs) → Rd H' b (.dK kvs)
  d : ∀ b kvs, Rd H b (.dT kvs) → Rd H' b (.dT kvs)
def isDi : HO → Prop
  | .dK _ => True
  | .dT _ => True
  | _ => False
theorem isDi.mut {u : HO} (h : isDi u) : Mut (some u) := by cases u <;> first | exact True.intro | exact h.elim
theorem isDi.nt {u : HO} (h : isDi u) : NT (some u) := by cases u <;> first | exact True.intro | exact h.elim
section
variable {K : PySem.W.Frag} {X : Cx} {p : Pm} {O O' : Ow} {σ σ' : L2.St} {H H' : Hp} {s s' : PSt} {v : V} {d : PyData} {a : Addr} {e ea eb tg : Expr} {es : List Expr} {pos ppos : Pos} {u : HO} {od : Obj}
theorem Lk.lock (h : H a = some u) (hu : isDi u) : Lk H (upd H a (.frz od u)) := by
  have ne : ∀ b (o : HO), H b = some o → ¬ isDi o → b ≠ a := fun b o e n z => by rw [z, h] at e; cases e; exact n hu
  refine ⟨fun b xs e => by rw [upd_ne (ne b _ e (fun z => z))]; exact e, fun b xs e => by rw [upd_ne (ne b _ e (fun z => z))]; exact e, fun b kvs r => ?_, fun b kvs r => ?_⟩
  all_goals
    by_cases z : b = a
    · subst z
      rcases r with r | ⟨o, r⟩
      · rw [h] at r; cases r; exact .inr ⟨od, upd_same⟩
      · rw [h] at r; cases r; exact hu.elim
    · rcases r with r | ⟨o, r⟩
      · exact .inl (by rw [upd_ne z]; exact r)
      · exact .inr ⟨o, by rw [upd_ne z]; exact r⟩
theorem Lk.unlock (h : H a = some (.frz od u)) (hu : isDi u) : Lk H (upd H a u) := by
  have ne : ∀ b (o : HO), H b = some o → (∀ x y, o ≠ .frz x y) → b ≠ a := fun b o e n z => by rw [z, h] at e; cases e; exact n _ _ rfl
  refine ⟨fun b xs e => by rw [upd_ne (ne b _ e (fun _ _ z => nomatch z))]; exact e, fun b xs e => by rw [upd_ne (ne b _ e (fun _ _ z => nomatch z))]; exact e, fun b kvs r => ?_, fun b kvs r => ?_⟩
  all_goals
    by_cases z : b = a
    · subst z
      rcases r with r | ⟨o, r⟩
      · rw [h] at r; cases r
      · rw [h] at r; cases r; exact .inl upd_same
    · rcases r with r | ⟨o, r⟩
      · exact .inl (by rw [upd_ne z]; exact r)
      · exact .inr ⟨o, by rw [upd_ne z]; exact r⟩
mutual
theorem At.lkd (k : Lk H H') : ∀ (d : PyData) (v : V), At K O H v d → At K O H' v d
  | .none, _, h => by cases h; exact .non
  | .bool _, _, h => by cases h; exact .bl _
  | .int _, _, h => by cases h; exact .int _
  | .str _, _, h => by cases h; exact .str _
  | .list ds, _, h => by
    cases h with
    | lst s l => exact .lst ⟨s.1, k.l _ _ s.2⟩ (AtL.lkd k ds _ l)
  | .tuple ds, _, h => by
    cases h with
    | tup s l => exact .tup ⟨s.1, k.t _ _ s.2⟩ (AtL.lkd k ds _ l)
  | .dict (_ :: ds), _, h => by
    cases h with
    | dicK n s l => exact .dicK n (k.k _ _ s) (AtK.lkd k ds _ l)
    | dicT n s l => exact .dicT n (k.d _ _ s) (AtT.lkd k ds _ l)
  | .dict [], _, h => by cases h
theorem AtL.lkd (k : Lk H H') : ∀ (ds : List PyData) (vs : List V), AtL K O H vs ds → AtL K O H' vs ds
  | [], _, h => by cases h; exact .nil
  | d :: ds, _, h => by
    cases h with
    | cons h1 h2 => exact .cons (At.lkd k d _ h1) (AtL.lkd k ds _ h2)
theorem AtK.lkd (k : Lk H H') : ∀ (ds : List (PyData × PyData)) (vs : List (Key × V)), AtK K O H vs ds → AtK K O H' vs ds
  | [], _, h => by cases h; exact .nil
  | (_, d) :: ds, _, h => by
    cases h with
    | cons h1 h2 => exact .cons (At.lkd k d _ h1) (AtK.lkd k ds _ h2)
theorem AtT.lkd (k : Lk H H') : ∀ (ds : List (PyData × PyData)) (vs : List (List Key × V)), AtT K O H vs ds → AtT K O H' vs ds
  | [], _, h => by cases h; exact .nil
  | (_, d) :: ds, _, h => by
    cases h with
    | cons h1 h2 => exact .cons (At.lkd k d _ h1) (AtT.lkd k ds _ h2)
end
theorem At.lk (k : Lk H H') {d : PyData} {v : V} (h : At K O H v d) : At K O H' v d := At.lkd k d v h
theorem AtL.lk (k : Lk H H') {d : List PyData} {v : List V} (h : AtL K O H v d) : AtL K O H' v d := AtL.lkd k d v h
theorem OwnR.lk (k : Lk H H') (h : OwnR K O H a d) : OwnR K O H' a d := by
  cases h with
  | lst q l => exact .lst (k.l _ _ q) (l.lk k)
  | dicK q l => exact .dicK (k.k _ _ q) (AtK.lkd k _ _ l)
  | dicT q l => exact .dicT (k.d _ _ q) (AtT.lkd k _ _ l)
theorem inn_get {G : List Sl} {i : Nat} {S : Sl} (h : (G.map Sl.inn)[i]? = some S) : (∀ d, S ≠ .m d) ∧ ∃ S0, G[i]? = some S0 ∧ S = S0.inn := by
  rw [List.getElem?_map] at h
  cases q : G[i]? with
  | none => rw [q] at h; cases h
  | some S0 =>
    rw [q] at h
    injection h with h
    refine ⟨fun d z => ?_, S0, rfl, h.symm⟩
    subst h
    cases S0 <;> cases z
/-- into a lock -/
theorem Rl.lock (R : Rl K p O σ H s) (h : H a = some u) (hu : isDi u) : Rl K ⟨p.ha, upd H a (.frz od u), O⟩ O σ (upd H a (.frz od u)) ⟨s.G.map Sl.inn, s.hd⟩ := by
  have k : Lk H (upd H a (.frz od u)) := Lk.lock h hu
  have RB : Rl K ⟨p.ha, H, O⟩ O σ H ⟨s.G.map Sl.inn, s.hd⟩ := R.into []
  have some' : ∀ b, H b ≠ none → upd H a (.frz od u) b ≠ none := fun b n => by
    by_cases z : b = a
    · rw [z, upd_same]; exact fun z => nomatch z
    · rw [upd_ne z]; exact n
  refine ⟨RB.len, fun i S e => ?_, RB.inj, fun b e => ?_, fun b o e _ => e, fun b z => ?_, fun b z => z, fun b z => some' b (R.dom b z).ne, fun b z _ => z⟩
  · have q := RB.sl i S e
    cases S with
    | no => trivial
    | v d => obtain ⟨y, e1, e2⟩ := q; exact ⟨y, e1, e2.lk k⟩
    | m d => exact absurd rfl ((inn_get e).1 d)
    | b d => obtain ⟨c, e1, e2, e3, e4⟩ := q; exact ⟨c, e1, some' c e2, e3, e4.lk k⟩
    | h => exact q
  · obtain ⟨e1, xs, e2, e3⟩ := RB.hand b e
    exact ⟨e1, xs, k.l _ _ e2, e3.lk k⟩
  · have n := R.dom b z
    by_cases y : b = a
    · rw [y, upd_same]; exact True.intro
    · rw [upd_ne y]; exact n
/-- out of it -/
theorem Rl.unlock (R : Rl K p O σ H s) (h : H a = some u) (hu : isDi u) (hh : p.ha ≠ some a) (R' : Rl K ⟨p.ha, upd H a (.frz od u), O⟩ O' σ' H' s') :
    H' a = some (.frz od u) ∧ Lk H' (upd H' a u) ∧ Rl K ⟨p.ha, H, O⟩ O' σ' (upd H' a u) s' ∧ Kp O H O' (upd H' a u) := by
  have at1 : H' a = some (.frz od u) := R'.frm a _ upd_same hh
  have k : Lk H' (upd H' a u) := Lk.unlock at1 hu
  have off : ∀ b, b ≠ a → upd H' a u b = H' b := fun b n => upd_ne n
  have fr : ∀ b o, H b = some o → p.ha ≠ some b → upd H' a u b = some o := fun b o e n => by
    by_cases z : b = a
    · rw [z] at e ⊢; rw [h] at e; cases e; exact upd_same
    · rw [off b z]; exact R'.frm b o (by show upd H a _ b = _; rw [upd_ne z]; exact e) n
  have nn : ∀ b, H b ≠ none ↔ upd H a (.frz od u) b ≠ none := fun b => by
    by_cases z : b = a
    · rw [z, upd_same, h]; exact ⟨fun _ z => (nomatch z), fun _ z => (nomatch z)⟩
    · rw [upd_ne z]
  have RR : Rl K ⟨p.ha, H, O⟩ O' σ' (upd H' a u) s' := by
    refine ⟨R'.len, fun i S e => ?_, R'.inj, fun b e => ?_, fr, fun b z => ?_, R'.o0, fun b z => (R.dom b z).ne, fun b z n => R'.ob b z ((nn b).mp n)⟩
    · have q := R'.sl i S e
      cases S with
      | no => trivial
      | v d => obtain ⟨y, e1, e2⟩ := q; exact ⟨y, e1, e2.lk k⟩
      | m d =>
        obtain ⟨b, e1, e2, e3, e4, e5⟩ := q
        have nb : b ≠ a := fun z => by
          have e3 : upd H a (.frz od u) b = none := e3
          rw [z, upd_same] at e3; cases e3
        refine ⟨b, e1, e2, ?_, e4, ?_⟩
        · have e3 : upd H a (.frz od u) b = none := e3
          rw [upd_ne nb] at e3; exact e3
        · cases e5 with
          | lst q l => exact .lst (by rw [off b nb]; exact q) (l.lk k)
          | dicK q l => exact .dicK (by rw [off b nb]; exact q) (AtK.lkd k _ _ l)
          | dicT q l => exact .dicT (by rw [off b nb]; exact q) (AtT.lkd k _ _ l)
      | b d => obtain ⟨b, e1, e2, e3, e4⟩ := q; exact ⟨b, e1, (nn b).mpr e2, e3, e4.lk k⟩
      | h => exact q
    · obtain ⟨e1, xs, e2, e3⟩ := R'.hand b e
      exact ⟨e1, xs, k.l _ _ e2, e3.lk k⟩
    · by_cases y : b = a
      · rw [y, upd_same]; exact hu.nt
      · rw [off b y]; exact R'.dom b z
  refine ⟨at1, k, RR, ⟨fun b o e n => fr b o e fun z => n (R.hand b z).1, fun b n e z => n (RR.ob b z e)⟩⟩

/-! ### a name walked: its items, or a dict's keys -/
def itemsD : PyData → Option (List PyData)
  | .list ds => some ds
  | .tuple ds => some ds
  | .dict ((.bool _, .none) :: kvs) => some (kvs.map (·.1))
  | _ => none
@[simp] theorem itemsD_list (ds : List PyData) : itemsD (.list ds) = some ds := rfl
@[simp] theorem itemsD_tuple (ds : List PyData) : itemsD (.tuple ds) = some ds := rfl
@[simp] theorem itemsD_dic (t : Bool) (ds : List (PyData × PyData)) : itemsD (dicD t ds) = some (ds.map (·.1)) := rfl
@[simp] def tWkN (i : Nat) : PTI := fun s Q => ∃ d items, rd s (.s i) = some d ∧ itemsD d = some items ∧ Q items s
theorem mono_wkN {i : Nat} : ∀ s Q Q', (∀ d s', Q d s' → Q' d s') → tWkN i s Q → tWkN i s Q' := fun s Q Q' w ⟨d, it, e1, e2, q⟩ => ⟨d, it, e1, e2, w _ _ q⟩
theorem AtK.keyAt {kvs : List (Key × V)} {ds : List (PyData × PyData)} (h : AtK K O H kvs ds) : ∀ (i : Nat) (k : Key) (v : V), kvs[i]? = some (k, v) → (ds.map (·.1))[i]? = some (keyD k) := by
  induction kvs generalizing ds with
  | nil => intro i k v e; simp at e
  | cons q kvs ih =>
    cases h with
    | cons h1 h2 =>
      intro i k v e
      cases i with
      | zero => simp at e; obtain ⟨e1, e2⟩ := e; subst e1; rfl
      | succ i => simpa using ih h2 i k v (by simpa using e)
theorem AtT.keyAt {kvs : List (List Key × V)} {ds : List (PyData × PyData)} (h : AtT K O H kvs ds) : ∀ (i : Nat) (k : List Key) (v : V), kvs[i]? = some (k, v) → (ds.map (·.1))[i]? = some (keysD k) := by
  induction kvs generalizing ds with
  | nil => intro i k v e; simp at e
  | cons q kvs ih =>
    cases h with
    | cons h1 h2 =>
      intro i k v e
      cases i with
      | zero => simp at e; obtain ⟨e1, e2⟩ := e; subst e1; rfl
      | succ i => simpa using ih h2 i k v (by simpa using e)
theorem at_kV (k : Key) : At K O H (kV k) (keyD k) := by cases k <;> first | exact .int _ | exact .str _
theorem atL_kV : ∀ k : List Key, AtL K O H (k.map kV) (k.map keyD)
  | [] => .nil
  | k :: ks => .cons (at_kV k) (atL_kV ks)
theorem it_keys {G : Ow → Hp → Prop} {o : Obj} {kvs : List (Key × V)} {ds : List (PyData × PyData)} {K0 : PySem.W.Frag} {O0 : Ow} {H0 : Hp} (hk : AtK K0 O0 H0 kvs ds) (h : ∀ O H, G O H → H a = some (.frz o (.dK kvs))) : ItOk K G (Itk a o kvs) (ds.map (·.1)) where
  go i O H g hi := ⟨h O H g, by rw [hk.length]; simpa using hi⟩
  stop i O H g hi := ⟨h O H g, by rw [hk.length]; simpa using hi⟩
  yld i O H x H' d g _ hd y := by
    obtain ⟨e, k, v, e1, e2⟩ := y
    subst e e2
    rw [hk.keyAt i k v e1] at hd
    cases hd
    exact ⟨.inl rfl, at_kV k⟩
theorem it_keysT {G : Ow → Hp → Prop} {o : Obj} {kvs : List (List Key × V)} {ds : List (PyData × PyData)} {K0 : PySem.W.Frag} {O0 : Ow} {H0 : Hp} (hk : AtT K0 O0 H0 kvs ds) (h : ∀ O H, G O H → H a = some (.frz o (.dT kvs))) : ItOk K G (Itkt a o kvs) (ds.map (·.1)) where
  go i O H g hi := ⟨h O H g, by rw [hk.length]; simpa using hi⟩
  stop i O H g hi := ⟨h O H g, by rw [hk.length]; simpa using hi⟩
  yld i O H x H' d g hdm hd y := by
    obtain ⟨e, k, v, q, e1, e2, e3⟩ := y
    subst e e2
    rw [hk.keyAt i k v e1] at hd
    cases hd
    refine ⟨.inl rfl, .tup ⟨fun z => ?_, e3⟩ (atL_kV k)⟩
    have := hdm q z
    rw [e3] at this
    exact this
/-- in a heap where the name's dict is under a lock -/
theorem keys_read {i : Nat} (hx : σ[i]? = some (some (.ref a))) (hf : H a = some (.frz od u)) : ∀ R, liftI K true (tWkN i) σ H R → iKeys (tVar i) σ H R := by
  rintro R ⟨p, O, s, Rr, d, items, e1, e2, q⟩
  refine ⟨.ref a, hx, a, od, rfl, ?_⟩
  have ae : AtE K O H (.ref a) d := Rr.read (r := .s i) hx e1
  have hh : p.ha ≠ some a := Rr.readH (r := .s i) hx e1
  have stay : ∀ (O2 : Ow) (H2 : Hp), Stand true p O H O2 H2 → H2 a = some (.frz od u) := fun O2 H2 g => g.2 rfl a _ hf hh
  unfold itemsD at e2
  split at e2
  · obtain ⟨b, xs, ev, h1, _⟩ := ae.lst
    cases ev
    rw [hf] at h1; cases h1
  · obtain ⟨b, xs, ev, h1, _⟩ := ae.tup
    cases ev
    have h1 := h1.2
    rw [hf] at h1; cases h1
  · rename_i t kvs
    cases e2
    obtain ⟨b, ev, z⟩ := AtE.dic (t := t) ae
    cases ev
    rcases z with ⟨_, ks, r, l⟩ | ⟨_, ks, r, l⟩
    · have eu : u = .dK ks := by
        rcases r with r | ⟨o, r⟩
        · rw [hf] at r; cases r
        · rw [hf] at r; cases r; rfl
      subst eu
      exact .inl ⟨ks, hf, q _ O H Rr .refl (it_keys l stay)⟩
    · have eu : u = .dT ks := by
        rcases r with r | ⟨o, r⟩
        · rw [hf] at r; cases r
        · rw [hf] at r; cases r; rfl
      subst eu
      exact .inr ⟨ks, hf, q _ O H Rr .refl (it_keysT l stay)⟩
  · cases e2
theorem inn_inn (G : List Sl) : (G.map Sl.inn).map Sl.inn = G.map Sl.inn := by
  rw [List.map_map]
  exact List.map_congr_left fun S _ => by cases S <;> rfl
theorem rd_inn (G : List Sl) (hd : List PyData) (i : Nat) : rd ⟨G.map Sl.inn, hd⟩ (.s i) = rd ⟨G, hd⟩ (.s i) := by
  show (G.map Sl.inn)[i]?.bind Sl.data = G[i]?.bind Sl.data
  rw [List.getElem?_map]
  cases G[i]? with
  | none => rfl
  | some S => cases S <;> rfl
theorem cRun_inn {g : PTG} {tt : PTT} {te : PTE} {vs : List Nat} {G : List Sl} : ∀ (ds out hd : List PyData) (Q : List PyData → List PyData → Prop), cRun g tt te vs G ds out hd Q = cRun g tt te vs (G.map Sl.inn) ds out hd Q
  | [], _, _, _ => rfl
  | d :: ds, out, hd, Q => by
    have e : blkG (G.map Sl.inn) vs = blkG G vs := by
      show wipeG ((G.map Sl.inn).map Sl.inn) vs = wipeG (G.map Sl.inn) vs
      rw [inn_inn]
    unfold cRun
    rw [e]
    have ih : ∀ o h, cRun g tt te vs G ds o h Q = cRun g tt te vs (G.map Sl.inn) ds o h Q := fun o h => cRun_inn ds o h Q
    simp only [ih]
theorem lcN_read {i : Nat} {g : PTG} {tt : PTT} {te : PTE} {vs ws : List Nat} {Q : VK} (hg : ∀ d s Q Q', (∀ s', Q s' → Q' s') → g d s Q → g d s Q') (ht : MonoT tt) (he : Mono te)
    (hw : ∀ w ∈ ws, w ∈ vs) (h : liftF K (tComp (tWkN i) g tt te vs) σ H Q) :
    tLc (liftI K true (tWkL (tSl i))) (liftG K ws g) (liftT K tt) (lift K te) vs σ H Q ∨ tLc (iKeys (tVar i)) (liftG K ws g) (liftT K tt) (lift K te) vs σ H Q ∨ tLockE (tLc (iKeys (tVar i)) (liftG K ws g) (liftT K tt) (lift K te) vs) σ H Q := by
  obtain ⟨p, O, s, R, d, items, e1, e2, hsz, q⟩ := h
  have back : (∃ ds, d = .list ds ∨ d = .tuple ds) → tLc (liftI K true (tWkL (tSl i))) (liftG K ws g) (liftT K tt) (lift K te) vs σ H Q := fun hz => by
    refine lc_read (vs := vs) (ti := tWkL (tSl i)) (fun s Q Q' w q => ?_) hg ht he hw ⟨p, O, s, R, ?_⟩
    · obtain ⟨hd, d, ds, e, z, q⟩ := q
      exact ⟨hd, d, ds, e, z, w _ _ q⟩
    · obtain ⟨ds, hz⟩ := hz
      have ei : items = ds := by rcases hz with z | z <;> subst z <;> cases e2 <;> rfl
      subst ei
      exact ⟨⟨d, e1⟩, d, items, e1, hz, hsz, q⟩
  have e20 := e2
  unfold itemsD at e2
  split at e2
  · exact .inl (back ⟨_, .inl rfl⟩)
  · exact .inl (back ⟨_, .inr rfl⟩)
  · rename_i t kvs
    cases e2
    obtain ⟨v, hx⟩ := R.val ⟨_, e1⟩
    have ae : AtE K O H v _ := R.read (r := .s i) hx e1
    obtain ⟨a, ev, z⟩ := AtE.dic (t := t) ae
    subst ev
    have hh : p.ha ≠ some a := R.readH (r := .s i) hx e1
    obtain ⟨u, hu, r⟩ : ∃ u, isDi u ∧ Rd H a u := by
      rcases z with ⟨_, ks, r, _⟩ | ⟨_, ks, r, _⟩
      · exact ⟨.dK ks, (True.intro : isDi (.dK ks)), r⟩
      · exact ⟨.dT ks, (True.intro : isDi (.dT ks)), r⟩
    have go : ∀ {H : Hp} {Q : VK} {od : Obj}, H a = some (.frz od u) → liftF K (tComp (tWkN i) g tt te vs) σ H Q → tLc (iKeys (tVar i)) (liftG K ws g) (liftT K tt) (lift K te) vs σ H Q := fun {H Q od} hf h =>
      keys_read hx hf _ (lc_read (vs := vs) mono_wkN hg ht he hw h)
    rcases r with r | ⟨o, r⟩
    · refine .inr (.inr ⟨a, u, r, hu.mut, fun od => go upd_same ⟨⟨p.ha, upd H a (.frz od u), O⟩, O, ⟨s.G.map Sl.inn, s.hd⟩, R.lock r hu, _, _, by rw [rd_inn]; exact e1, e20, hsz, ?_⟩⟩)
      rw [← cRun_inn]
      refine cRun_mono hg ht he (fun out hd q b O' H' R' k' l' => ?_) _ _ _ q
      obtain ⟨f1, f2, f3, f4⟩ := R.unlock r hu hh R'
      refine ⟨f1, ?_⟩
      obtain ⟨l1, l2, l3, l4, l5⟩ := l'
      have l2 : upd H a (.frz od u) b = none := l2
      have nb : b ≠ a := fun z => by rw [z, upd_same] at l2; cases l2
      rw [upd_ne nb] at l2
      obtain ⟨g1, g2, g3⟩ := R.fresh l2
      refine q b O' (upd H' a u) (R.back f3 f4) f4 ⟨l1, g1, g2, ?_, g3⟩
      cases l4 with
      | lst q l => exact .lst (by rw [upd_ne nb]; exact q) (l.lk f2)
    · exact .inr (.inl (go r ⟨p, O, s, R, _, _, e1, e20, hsz, q⟩))
  · cases e2
variable {iter elt : Expr} {ifs : List Expr} {scope : Scope} {own : List (Str × Nat)}
theorem PE.or3 {t1 t2 t3 : TE} (h1 : PE X e t1) (h2 : PE X e t2) (h3 : PE X e t3) : PE X e fun σ H Q => t1 σ H Q ∨ t2 σ H Q ∨ t3 σ H Q := ⟨fun pins s σ H Q I q => by
  rcases q with q | q | q
  · exact h1.run pins s σ H Q I q
  · exact h2.run pins s σ H Q I q
  · exact h3.run pins s σ H Q I q⟩
/-- [.. for x in name ..]: a list, a tuple or a dict -/
theorem df_lcN {i : Nat} {g : PTG} {tt : PTT} {te : PTE} {ws : List Nat} (hc : X.calm = true) (hN : X.N.Nodup) (hi : PE X iter (tVar i)) (ok : BlkOk X.N X.env.scope scope own)
    (hg : Blk X scope fun Y => DG Y tg ws g) (ht : Blk X scope fun Y => DTs Y ifs tt) (he : Blk X scope fun Y => DE Y elt te) (hw : ∀ w ∈ ws, w ∈ own.map (·.2)) (hs : ∀ x, foldedSetIterable iter X.env x = pure x := by intro _; rfl) :
    DF X (.ListComp elt [⟨tg, iter, ifs, 0⟩] scope pos) (tComp (tWkN i) g tt te (own.map (·.2))) := by
  have h0 := hg X.s_0 X.H_0 0 [] []
  have h1 := ht X.s_0 X.H_0 0 [] []
  have h2 := he X.s_0 X.H_0 0 [] []
  have a1 := fun {wi : TI} (h : PI X tg iter wi) => pe_lc (g := liftG X.K ws g) (tt := liftT X.K tt) (te := lift X.K te) (elt := elt) (ifs := ifs) (pos := pos) hc hN h ok (fun s H C cl fp => (hg s H C cl fp).pg) (fun s H C cl fp => (ht s H C cl fp).pt) (fun s H C cl fp => (he s H C cl fp).pe) hs
  exact ⟨PE.weak (PE.or3 (a1 (di_seqL (dl_pe hi)).pi) (a1 (pi_keys hi)) (pe_lock (a1 (pi_keys hi)))) fun σ H Q q => lcN_read h0.mono h1.mono h2.mono hw q, mono_comp mono_wkN h0.mono h1.mono h2.mono⟩
theorem PS.or3 {st : Stmt} {t1 t2 t3 : TS} (h1 : PS X st t1) (h2 : PS X st t2) (h3 : PS X st t3) : PS X st fun D σ H => t1 D σ H ∨ t2 D σ H ∨ t3 D σ H := ⟨fun pins s σ H D I q => by
  rcases q with q | q | q
  · exact h1.run pins s σ H D I q
  · exact h2.run pins s σ H D I q
  · exact h3.run pins s σ H D I q⟩
theorem ds_setLcN {i j : Nat} {y : Str} {py spos : Pos} {g : PTG} {tt : PTT} {te : PTE} {ws : List Nat} (hc : X.calm = true) (hN : X.N.Nodup) (hy : X.N[j]? = some y) (hyl : X.env.scope.names.lookup y = some .local)
    (hsw : swapsWith (.ListComp elt [⟨tg, iter, ifs, 0⟩] scope pos) (some (.Name y py)) spos.line X.env = pure true) (hi : PE X iter (tVar i)) (ok : BlkOk X.N X.env.scope scope own)
    (hg : Blk X scope fun Y => DG Y tg ws g) (ht : Blk X scope fun Y => DTs Y ifs tt) (he : Blk X scope fun Y => DE Y elt te) (hw : ∀ w ∈ ws, w ∈ own.map (·.2)) (hs : ∀ x, foldedSetIterable iter X.env x = pure x := by intro _; rfl) :
    DS X (.Assign [.Name y py] (.ListComp elt [⟨tg, iter, ifs, 0⟩] scope pos) spos) (tAs true (tComp (tWkN i) g tt te (own.map (·.2))) j) := by
  have h0 := hg X.s_0 X.H_0 0 [] []
  have h1 := ht X.s_0 X.H_0 0 [] []
  have h2 := he X.s_0 X.H_0 0 [] []
  have hm := mono_comp (vs := own.map (·.2)) (mono_wkN (i := i)) h0.mono h1.mono h2.mono
  have a1 := fun {wi : TI} (h : PI X tg iter wi) => ps_setLc (g := liftG X.K ws g) (tt := liftT X.K tt) (te := lift X.K te) (elt := elt) (ifs := ifs) (pos := pos) (py := py) (spos := spos) hc hN hy hyl hsw h ok (fun s H C cl fp => (hg s H C cl fp).pg) (fun s H C cl fp => (ht s H C cl fp).pt) (fun s H C cl fp => (he s H C cl fp).pe) hs
  refine ⟨PS.weak (PS.or3 (a1 (di_seqL (dl_pe hi)).pi) (a1 (pi_keys hi)) (ps_lock (a1 (pi_keys hi)))) fun D σ H q => ?_, mono_as hm⟩
  obtain ⟨p, O, s, R, q⟩ := q
  have z := lcN_read (Q := fun v H1 => gName j v σ H1 D.nx) h0.mono h1.mono h2.mono hw (σ := σ) (H := H) ⟨p, O, s, R, hm _ _ _ (fun d s' q a O' H' R' k' l => q _ O' H' (R'.setx (fr := true) ⟨a, rfl, l⟩) k') q⟩
  exact z
end
end PD
end
section
set_option Elab.async false
set_option linter.all false
set_option maxRecDepth 100000
set_option maxHeartbeats 4000000
/-! PD23: dict(enumerate(t)) of a tuple; list(d.items()). -/
namespace PD
open PySem PySem.Spec PyProof.Rows L2
section
variable {prog : Program} {w : World} {A : Around} {E : Value → Shared → Prop} {s : Shared}
/-- the next pair of an enumerate over a tuple, the pair before still there -/
theorem enumT_held {en it tp T : Addr} {i : Nat} {vs : Array Value} {x last : Value} {fl : Bool} {oT : Obj} {Q : Value → Shared → Prop}
    (hen : IsEnumHeld s.heap en it i last T fl) (hT : s.heap.get? T = some oT) (n1 : T ≠ en) (n2 : T ≠ it) (hit : s.heap.IsTupleIter it tp i) (htp : s.heap.IsTuple tp vs) (hx : vs[i]? = some x) (n3 : en ≠ it)
    (k : ∀ h', IsEnumHeld h' en it ((i : Int) + 1) last T true → h'.IsTupleIter it tp (i + 1) → h'.get? s.heap.objs.size = some { cls := .type "tuple", data := .seq #[.int i s.toks, x] } →
      (∀ b o, b ≠ en → b ≠ it → s.heap.get? b = some o → h'.get? b = some o) → Q (.ref s.heap.objs.size) { s with heap := h', toks := s.toks + 1 }) :
    wpAny (model prog w) A (Builtin.«enumerate.__next__» ⟨[.ref en], []⟩) (fun z s2 => ∃ v, z = .done (.ret v) ∧ Q v s2) E s := by
  obtain ⟨hp, g, d, tk, os⟩ := s
  have lt : en < hp.objs.size := Heap.lt_size hen
  show wpAny _ _ (field (.ref en) 2 >>= _) _ _ _
  refine wpAny_bind (wpAny_field hen rfl (x := .ref it) rfl (wpAny_bind (wpAny_nextOf_tuple_item hit htp hx fun h1 hit1 sb1 => ?_)))
  have sb1 : Heap.SameBut it hp h1 := sb1
  have hen1 : IsEnumHeld h1 en it i last T fl := (sb1.2 en n3).trans hen
  show wpAny _ _ (field (.ref en) 3 >>= _) _ _ ⟨h1, g, d, tk, os⟩
  refine wpAny_bind (wpAny_field hen1 rfl (x := rawInt i) rfl ?_)
  show wpAny _ _ (field (.ref en) 4 >>= _) _ _ ⟨h1, g, d, tk, os⟩
  refine wpAny_bind (wpAny_field hen1 rfl (x := .none) rfl ?_)
  show wpAny _ _ (mkInt i >>= _) _ _ ⟨h1, g, d, tk, os⟩
  refine wpAny_bind (wpAny_mkInt ?_)
  show wpAny _ _ (setField (.ref en) 3 (rawInt ((i : Int) + 1)) >>= _) _ _ ⟨h1, g, d, tk + 1, os⟩
  refine wpAny_bind (wpAny_setField_rec hen1 (by simp) fun h2 hen2 sb2 => ?_)
  have sb2 : Heap.SameBut en h1 h2 := sb2
  have hen2 : IsEnumHeld h2 en it ((i : Int) + 1) last T fl := hen2
  show wpAny _ _ (setField (.ref en) 4 .none >>= _) _ _ ⟨h2, g, d, tk + 1, os⟩
  refine wpAny_bind (wpAny_setField_rec hen2 (by simp) fun h3 hen3 sb3 => ?_)
  have sb3 : Heap.SameBut en h2 h3 := sb3
  have hen3 : IsEnumHeld h3 en it ((i : Int) + 1) last T fl := hen3
  show wpAny _ _ (newTuple [.int i tk, x] >>= _) _ _ ⟨h3, g, d, tk + 1, os⟩
  have sz : h3.objs.size = hp.objs.size := sb3.1.trans (sb2.1.trans sb1.1)
  have old3 : ∀ b o, b ≠ en → b ≠ it → hp.get? b = some o → h3.get? b = some o := fun b o e1 e2 e => (sb3.2 b e1).trans ((sb2.2 b e1).trans ((sb1.2 b e2).trans e))
  have hit3 : h3.IsTupleIter it tp (i + 1) := (hit1.extBut sb2.extBut (Ne.symm n3)).extBut sb3.extBut (Ne.symm n3)
  refine wpAny_bind (wpAny_newTuple ?_)
  obtain ⟨h4, eh4⟩ : ∃ h4, h4 = h3.push { cls := .type "tuple", data := .seq #[.int i tk, x] } := ⟨_, rfl⟩
  rw [← eh4]
  have up : ∀ b o, h3.get? b = some o → h4.get? b = some o := fun b o e => by rw [eh4]; exact Heap.get?_push_of_some _ e
  have hen4 : IsEnumHeld h4 en it ((i : Int) + 1) last T fl := up _ _ hen3
  have new4 : h4.get? hp.objs.size = some { cls := .type "tuple", data := .seq #[.int i tk, x] } := by rw [eh4, ← sz]; exact Heap.get?_push_size _ rfl
  show wpAny _ _ (Builtin.SmallTypes.ownedTupleIsFree (.ref en) >>= _) _ _ ⟨h4, g, d, tk + 1, os⟩
  rw [sz]
  refine wpAny_bind (wpAny_tupleHeld_enum (s := ⟨h4, g, d, tk + 1, os⟩) hen4 (up _ _ (old3 T oT n1 n2 hT)) fun h5 hen5 sb5 => ?_)
  have sb5 : Heap.SameBut en h4 h5 := sb5
  simp only [Bool.false_eq_true, if_false]
  refine wpAny_pure ⟨_, rfl, k h5 hen5 ?_ ((sb5.2 _ (Nat.ne_of_gt lt)).trans new4) fun b o e1 e2 e => (sb5.2 b e1).trans (up _ _ (old3 b o e1 e2 e))⟩
  obtain ⟨o, ho, r⟩ := hit3
  exact ⟨o, (sb5.2 it (Ne.symm n3)).trans (up _ _ ho), r⟩
theorem next_enumT_held {en it tp T : Addr} {i : Nat} {vs : Array Value} {x last : Value} {fl : Bool} {oT : Obj} {Q : Option Value → Shared → Prop}
    (hen : IsEnumHeld s.heap en it i last T fl) (hT : s.heap.get? T = some oT) (n1 : T ≠ en) (n2 : T ≠ it) (hit : s.heap.IsTupleIter it tp i) (htp : s.heap.IsTuple tp vs) (hx : vs[i]? = some x) (n3 : en ≠ it)
    (k : ∀ h', IsEnumHeld h' en it ((i : Int) + 1) last T true → h'.IsTupleIter it tp (i + 1) → h'.get? s.heap.objs.size = some { cls := .type "tuple", data := .seq #[.int i s.toks, x] } →
      (∀ b o, b ≠ en → b ≠ it → s.heap.get? b = some o → h'.get? b = some o) → Q (some (.ref s.heap.objs.size)) { s with heap := h', toks := s.toks + 1 }) :
    wpAny (model prog w) A (pyNext (.ref en)) Q E s := by
  have ty : s.TypeIs (.ref en) "enumerate" := ⟨_, hen, rfl⟩
  unfold pyNext
  exact wpAny_bind (wpAny_attempt (wpAny_callSpecial?_slot (name := Str.ofString "__next__") ty F.slot_enumerate_next (wpAny_call_entry F.slot_enumerate_next ty F.entry_enumerate_next (enumT_held hen hT n1 n2 hit htp hx n3 fun h' a b c d => wpAny_pure (k h' a b c d)) (F.args_enumerate_next_1 _))))
theorem next_enumT_over {en it tp T : Addr} {i : Nat} {vs : Array Value} {last : Value} {fl : Bool} {Q : Option Value → Shared → Prop} (hh : A.handled = none) (hen : IsEnumHeld s.heap en it i last T fl) (hit : s.heap.IsTupleIter it tp i) (htp : s.heap.IsTuple tp vs) (hx : vs[i]? = none)
    (k : ∀ h', Heap.ExtBut it s.heap h' → Q none { s with heap := h' }) : wpAny (model prog w) A (pyNext (.ref en)) Q E s := by
  have ty : s.TypeIs (.ref en) "enumerate" := ⟨_, hen, rfl⟩
  unfold pyNext
  refine wpAny_bind (wpAny_attempt (wpAny_callSpecial?_slot (name := Str.ofString "__next__") ty F.slot_enumerate_next (wpAny_call_entry F.slot_enumerate_next ty F.entry_enumerate_next ?_ (F.args_enumerate_next_1 _))))
  show wpAny _ _ (field (.ref en) 2 >>= _) _ _ _
  refine wpAny_bind (wpAny_field hen rfl (x := .ref it) rfl (wpAny_bind (wpAny_nextOf_tuple_end hh hit htp hx fun h2 e e1 e2 => ?_)))
  obtain ⟨u, u1, u2⟩ := e2
  exact wpAny_bind (wpAny_isInstance (T := "StopIteration") (b := true) ⟨u, u1, u2⟩ isSubtype_stop (wpAny_pure (k _ e1)))
end
section
variable {prog : Program} {w : World}
/-- enumerate(t) of a tuple, as what dict() takes -/
theorem pairs_enumT (en it tp : Addr) (n1 : en ≠ it) (n2 : tp ≠ en) (n3 : tp ≠ it) (vs : Array Value) :
    PairArg prog w "enumerate" en [en, it, tp] [en, it] vs.size (fun i k v => (∃ t, k = .int i t) ∧ vs[i]? = some v) (fun h => (∃ last, IsEnum h en it 0 last) ∧ h.IsTupleIter it tp 0 ∧ h.IsTuple tp vs) where
  type := fun s ⟨⟨_, he⟩, _⟩ => ⟨_, he, rfl⟩
  notDict := by decide
  keep := fun h h' ⟨⟨last, he⟩, hit, hl⟩ hk => ⟨⟨last, hk _ _ he⟩, hit.at fun o z => hk _ o z, hl.at fun o z => hk _ o z⟩
  there := fun h ⟨⟨_, he⟩, ⟨_, h1, _⟩, ⟨_, h2, _⟩⟩ b hb => by
    have hb : b = en ∨ b = it ∨ b = tp := by simpa using hb
    rcases hb with z | z | z <;> subst z
    · exact ⟨_, he⟩
    · exact ⟨_, h1⟩
    · exact ⟨_, h2⟩
  sub := fun b hb => by
    have hb : b = en ∨ b = it := by simpa using hb
    rcases hb with z | z <;> simp [z]
  noKeys := fun A s Q E hA ⟨⟨_, he⟩, _⟩ h => getAttrOr_miss_enumerate he rfl rfl rfl enumerate_no_keys (by decide +kernel) hA h
  iter := fun A s d Q E hA ok hd hdf h => by
    obtain ⟨⟨last, he⟩, hit, hl⟩ := ok
    have hdf : d ≠ en ∧ d ≠ it ∧ d ≠ tp := by simpa using hdf
    obtain ⟨m1, m2, m3⟩ := hdf
    refine wpAny_pyIter_enum he (h en [en, it] (fun i h => h.IsTupleIter it tp i ∧ h.IsTuple tp vs ∧ ((∃ last, IsEnum h en it i last) ∨ ∃ last T fl oT, IsEnumHeld h en it i last T fl ∧ h.get? T = some oT ∧ T ≠ en ∧ T ≠ it ∧ T ≠ d)) s.heap s.toks ?_ ⟨hit, hl, Or.inl ⟨last, he⟩⟩ (fun _ _ e => e) fun b hb => Or.inl hb)
    refine ⟨fun hm => ?_, fun i h1 h2 st hk => ?_, fun i s1 Q1 E1 hi st hds hQ => ?_, fun s1 Q1 E1 st hQ => ?_⟩
    · have hm : d = en ∨ d = it := by simpa using hm
      rcases hm with z | z
      · exact m1 z
      · exact m2 z
    · obtain ⟨hit, hl, he⟩ := st
      refine ⟨hit.at fun o z => hk _ o (Ne.symm m2) z, hl.at fun o z => hk _ o (Ne.symm m3) z, ?_⟩
      rcases he with ⟨last, he⟩ | ⟨last, T, fl, oT, he, hT, r1, r2, r3⟩
      · exact Or.inl ⟨last, hk _ _ (Ne.symm m1) he⟩
      · exact Or.inr ⟨last, T, fl, oT, hk _ _ (Ne.symm m1) he, hk _ _ r3 hT, r1, r2, r3⟩
    · obtain ⟨hit, hl, he⟩ := st
      have ex : vs[i]? = some vs[i] := Array.getElem?_eq_getElem hi
      have ec : ((i + 1 : Nat) : Int) = (i : Int) + 1 := by omega
      have offL : ∀ (b : Addr) (o : Obj), b ∉ [en, it] → b ≠ en ∧ b ≠ it := fun b o hb => ⟨fun z => hb (by simp [z]), fun z => hb (by simp [z])⟩
      rcases he with ⟨last, he⟩ | ⟨last, T, fl, oT, he, hT, r1, r2, r3⟩
      · have nit : s1.heap.objs.size ≠ it := by obtain ⟨_, z, _⟩ := hit; exact Nat.ne_of_gt (Heap.lt_size z)
        refine wpAny_pyNext_enum_itemD (Draws.tuple (prog := prog) (w := w) (A := A.in1) hA it tp n3 vs) he ⟨hit, hl⟩ hi n1 (by simp only [List.mem_cons, List.not_mem_nil, or_false, not_or]; exact ⟨n1, Ne.symm n2⟩) fun y h' tk hy ho st' hT hz hk => ?_
        have hy : vs[i]? = some y := hy
        rw [ex] at hy
        cases hy
        exact hQ s1.heap.objs.size _ _ h' (tk + 1) ⟨⟨_, rfl⟩, ex⟩ (Or.inl ⟨_, hT, rfl, _, rfl⟩) ⟨st'.1, st'.2, Or.inr ⟨_, s1.heap.objs.size, false, _, (by rw [ec]; exact ho), hT, Nat.ne_of_gt (Heap.lt_size he), nit, Nat.ne_of_gt hds⟩⟩ fun b o hb z => hk b o (offL b o hb).1 (offL b o hb).2 z
      · refine next_enumT_held he hT r1 r2 hit hl ex n1 fun h' ho hit' hT' hk => ?_
        exact hQ s1.heap.objs.size _ _ h' (s1.toks + 1) ⟨⟨_, rfl⟩, ex⟩ (Or.inl ⟨_, hT', rfl, _, rfl⟩) ⟨hit', hl.at fun o z => hk tp o n2 n3 z, Or.inr ⟨last, T, true, oT, (by rw [ec]; exact ho), hk _ _ r1 r2 hT, r1, r2, r3⟩⟩ fun b o hb z => hk b o (offL b o hb).1 (offL b o hb).2 z
    · obtain ⟨hit, hl, he⟩ := st
      have hx : vs[vs.size]? = none := Array.getElem?_eq_none (Nat.le_refl _)
      rcases he with ⟨last, he⟩ | ⟨last, T, fl, oT, he, hT, r1, r2, r3⟩
      · exact enumT_end hA he hit hl hx fun h' hk => hQ h' s1.toks fun b o hb z => hk b o (fun y => hb (by simp [y])) z
      · exact next_enumT_over hA he hit hl hx fun h' hk => hQ h' s1.toks fun b o hb z => hk b o (fun y => hb (by simp [y])) z
end

section
variable {X : Cx} {e : Expr} {te : TE} {p1 p2 p3 apos cpos pos : Pos}
/-- dict(enumerate(t)) -/
def tDictEn (K : PySem.W.Frag) (te : TE) : TE := fun σ H Q => te σ H fun x H1 => ∃ a xs, x = .ref a ∧ SqT K H1 a xs ∧ xs.length ≤ sizeLine ∧ ∀ D, H1 D = none → Q (.ref D) (upd H1 D (.dK (mergeK [] (xs.mapIdx fun i y => ((Sum.inl (i : Int) : Key), y)))))
theorem pe_dictEnum (hc : X.calm = true) (hg : Gl X "dict") (hm : X.mg "dict" = none) (hg2 : Gl X "enumerate") (hm2 : X.mg "enumerate" = none) (he : PE X e te) (hs : starEach [e] X.env = (false, eval e X.env) :: starEach [] X.env := by rfl)
    (hs2 : starEach [.Call (.Name "enumerate" p2) [e] [] p3] X.env = (false, eval (.Call (.Name "enumerate" p2) [e] [] p3) X.env) :: starEach [] X.env := by rfl) (hv : bootBuiltins "dict" = some (.type "dict") := by decide +kernel) :
    PE X (.Call (.Name "dict" p1) [.Call (.Name "enumerate" p2) [e] [] p3] [] pos) (tDictEn X.K te) := by
  refine ⟨fun pins s σ H Q I q => ?_⟩
  refine Call_ (ld_blt I hg hm hv (PyProof.Rows.callWith_type1 (args_cons ?_ hs2) hs2))
  refine Call_ (ld_blt I hg2 hm2 boot_enumerate (PyProof.Rows.callWith_type1 (args_cons (thn (he.run pins s σ H _ I q) fun v s1 ⟨x, H1, I1, r1, a, xs, ex, hq, hz, q1⟩ => args_nil ?_) hs) hs))
  subst ex
  obtain rfl : v = Value.ref a := r1
  obtain ⟨its, rv, pl, _⟩ := I1.tuple hq
  have la : a < s1.heap.objs.size := by obtain ⟨o, ho, _⟩ := pl; exact Heap.lt_size ho
  refine call_enumT (begins_tuple a its.toArray) pl fun h' h1 h2 k => args_nil ?_
  have I2 : Inv X pins σ H1 { s1 with heap := h' } := I1.kept (t' := s1.toks) k
  obtain ⟨prs, hprs⟩ : ∃ prs : List (Key × Value), prs = its.mapIdx fun i u => ((Sum.inl (i : Int) : Key), u) := ⟨_, rfl⟩
  have rel : KV (xs.mapIdx fun i y => ((Sum.inl (i : Int) : Key), y)) prs := by
    rw [hprs]
    have go : ∀ (l : List V) (m : List Value) (f : Nat → Key), Vals l m → KV (l.mapIdx fun i y => (f i, y)) (m.mapIdx fun i u => (f i, u)) := fun l => by
      induction l with
      | nil => intro m f r; cases r; exact .nil
      | cons y l ih =>
        intro m f r
        cases r with
        | cons r1 r2 =>
          rw [List.mapIdx_cons, List.mapIdx_cons]
          exact .cons ⟨rfl, r1⟩ (ih _ (fun i => f (i + 1)) r2)
    exact go xs its _ rv
  have lp : prs.length = its.length := by rw [hprs]; simp
  have lx : xs.length = its.length := rv.length
  refine PySem.call_dict_pairs (knd := mixKind X.prog X.w) (kvs := prs) (pairs_enumT (s1.heap.objs.size + 1) s1.heap.objs.size a (Nat.succ_ne_self _) (Nat.ne_of_lt (Nat.lt_succ_of_lt la)) (Nat.ne_of_lt la) its.toArray) (I1.ok.hd hc) ⟨⟨.none, h1⟩, ⟨_, h2, rfl, rfl⟩, (show s1.heap.IsTuple a its.toArray from pl).at fun o z => k _ o z⟩ ⟨by rw [lp]; simp, fun i key v ⟨⟨t, ek⟩, ev⟩ => ?_⟩ (by simp; omega) fun h2' tk hd hk => ?_
  · subst ek
    refine ⟨Sum.inl (i : Int), ?_, keyIs_int _ t⟩
    rw [hprs, List.getElem?_mapIdx]
    have : its[i]? = some v := by simpa using ev
    rw [this]; rfl
  · have hm : (h'.objs.size == sysModules) = false := beq_eq_false_iff_ne.mpr (Nat.ne_of_gt I2.big)
    have kv : KV (mergeK [] (xs.mapIdx fun i y => ((Sum.inl (i : Int) : Key), y))) (merged [] prs) := KV.merge rel .nil
    have ln : (mergeK [] (xs.mapIdx fun i y => ((Sum.inl (i : Int) : Key), y))).length ≤ sizeLine := by
      refine Nat.le_trans (length_mergeK _ []) ?_
      simp; omega
    have le1 : s1.heap.objs.size + 1 < h'.objs.size := Heap.lt_size h1
    refine ⟨.ref h'.objs.size, upd H1 h'.objs.size (.dK (mergeK [] (xs.mapIdx fun i y => ((Sum.inl (i : Int) : Key), y)))), I1.laid (t' := tk) (fun b u z => ?_) (by omega) ⟨ln, hm, _, kv, hd⟩, rfl, q1 _ (I1.hok.fresh (by omega))⟩
    have lb := Heap.lt_size z
    refine hk b u ?_ (k b u z)
    simp only [List.mem_cons, List.not_mem_nil, or_false, not_or]
    exact ⟨Nat.ne_of_lt (Nat.lt_succ_of_lt lb), Nat.ne_of_lt lb⟩
/-- list(d.items()), whether a lock lies on d or not -/
def tItemsR (te : TE) : TE := fun σ H Q => te σ H fun x H1 => ∃ (d : Addr) (kvs : List (Key × V)), x = .ref d ∧ Rd H1 d (.dK kvs) ∧
  ∀ (H' : Hp) (p : Addr) (ts : List Addr), (∀ b o, H1 b = some o → H' b = some o) → H1 p = none → (∀ t ∈ ts, H1 t = none) → H' p = some (.lst (ts.map V.ref)) → Paired (fun (t : Addr) (q : Key × V) => H' t = some (.tup [kV q.1, q.2])) ts kvs → Q (.ref p) H'
theorem pe_itemsR (hc : X.calm = true) (he : PE X e te) (hg : Gl X "list") (hm : X.mg "list" = none) (hv : bootBuiltins "list" = some (.type "list") := by decide +kernel) (hbase : attributeBase e "items" X.env (eval e X.env) = eval e X.env := by rfl) (hline : (apos.endLine == cpos.line) = true := by rfl)
    (hs : starEach [.Call (.Attribute e "items" apos) [] [] cpos] X.env = (false, eval (.Call (.Attribute e "items" apos) [] [] cpos) X.env) :: starEach [] X.env := by rfl) :
    PE X (.Call (.Name "list" p1) [.Call (.Attribute e "items" apos) [] [] cpos] [] pos) (tItemsR te) := by
  refine ⟨fun pins s σ H Q I hq => wpAny_Call_Name_kw (ld_blt I hg hm hv (PyProof.Rows.callWith_type1 ?_ hs rfl))⟩
  rw [hs]
  show wpAny _ _ (spliced ((false, eval (.Call (.Attribute e "items" apos) [] [] cpos) X.env) :: backTo pos (starEach [] X.env))) _ _ s
  refine Calls.spliced_cons (wpAny_Call_method (T := "dict") (id := "dict.items") hbase rfl hline F.plainAttrs_dict F.slot_dict_items F.type_dict_items (thn (he.run pins s σ H _ I hq) fun u s1 ⟨x, H1, I1, rx, d, kvs, ex, rd, q⟩ => ?_))
  subst ex
  obtain rfl : u = Value.ref d := rx
  obtain ⟨hz, hs0, vs, kv, hdo⟩ := rd.ok I1.hok
  obtain ⟨ep, hat⟩ := hdo.dictAt
  have lk : kvs.length = vs.length := Paired.length kv
  have J0 : Inv X pins σ H1 { s1 with heap := s1.heap.push { cls := .type "dict_items", data := .fields #[.ref d] } } := I1.kept (t' := s1.toks) fun b ob z => Heap.get?_push_of_some _ z
  refine ⟨hdo.typeIs, hdo.mapOf.noDict, ?_⟩
  show wpAny _ _ (callWith cpos (.builtin "dict.items") [.ref d] [] []) _ X.xe s1
  refine method_meetsIn F.slot_dict_items F.entry_dict_items rfl (PySem.evalArgs_none ⟨rfl, hdo.typeIs, F.args_dict_items_1 _, _, meets_dict_items (mixKind X.prog X.w) d hs0, ⟨vs, hdo⟩, Calls.spliced_nil ?_⟩)
  refine PySem.W.kdx_call (knd := mixKind X.prog X.w) (kvs := vs) (ep := ep) (I1.ok.hd hc) ⟨_, Heap.get?_push_size _ rfl, rfl, rfl⟩ (hat.push _) (by omega) fun h' tk acc c as hk hS hl hG hacc => ?_
  obtain ⟨H', k1, k2, k3, k4, k5, k6, J⟩ := LiI.items_laid (tk := tk) J0 hz kv hk hS hl hG hacc
  exact ⟨.ref _, H', J, rfl, q H' _ as k1 k2 k3 k5 k6⟩
end

/-! ### over data -/
section
variable {K : PySem.W.Frag} {X : Cx} {p : Pm} {O O' : Ow} {σ σ' : L2.St} {H H' : Hp} {s s' : PSt} {v : V} {d : PyData} {a : Addr} {e : Expr} {pos p1 p2 p3 apos cpos : Pos} {te : PTE} {tl : PTL}
theorem Rl.grow (R : Rl K p O σ H s) (g : ∀ b o, H b = some o → H' b = some o) : Rl K p O σ H' s ∧ Kp O H O H' := by
  have k : Kp O H O H' := ⟨fun b o e _ => g b o e, fun _ n _ => n⟩
  have same : ∀ b, H b ≠ none → H' b = H b := fun b n => by
    cases e : H b with
    | none => exact absurd e n
    | some o => exact g b o e
  refine ⟨⟨R.len, fun i S e => ?_, R.inj, fun b e => ?_, fun b o e n => g b o (R.frm b o e n), fun b z => by rw [same b (R.dom b z).ne]; exact R.dom b z, R.o0, R.od, R.ob⟩, k⟩
  · have q := R.sl i S e
    cases S with
    | no => trivial
    | v d => obtain ⟨y, e1, e2⟩ := q; exact ⟨y, e1, e2.to k⟩
    | m d => obtain ⟨b, e1, e2, e3, e4, e5⟩ := q; exact ⟨b, e1, e2, e3, e4, e5.to k (same b e5.some)⟩
    | b d => obtain ⟨b, e1, e2, e3, e4⟩ := q; exact ⟨b, e1, e2, e3, e4.to k (same b e4.some)⟩
    | h => exact q
  · obtain ⟨e1, xs, e2, e3⟩ := R.hand b e
    exact ⟨e1, xs, g b _ e2, e3.to k⟩
/-- a row merged into a dict -/
def mergeD (ds : List (PyData × PyData)) (more : List (PyData × PyData)) : List (PyData × PyData) := more.foldl (fun acc q => insD q.1 q.2 acc) ds
theorem AtK.merge {kvs : List (Key × V)} {ds : List (PyData × PyData)} (h : AtK K O H kvs ds) : ∀ {more : List (Key × V)} {ms : List (PyData × PyData)}, AtK K O H more ms → AtK K O H (mergeK kvs more) (mergeD ds ms) := fun {more ms} m => by
  induction more generalizing kvs ds ms with
  | nil => cases m; exact h
  | cons q more ih =>
    cases m with
    | cons m1 m2 => exact ih (h.put m1) m2
/-- new dicts as shared data -/
theorem fin_dK {q : Addr} {kvs : List (Key × V)} {ds : List (PyData × PyData)} (R : Rl K p O σ H s) (hq : H q = none) (l : AtK K O H kvs ds) :
    Rl K p O σ (upd H q (.dK kvs)) s ∧ Kp O H O (upd H q (.dK kvs)) ∧ At K O (upd H q (.dK kvs)) (.ref q) (dicD false ds) :=
  ⟨R.new hq, Kp.new hq, .dicK (R.nown hq) (.inl upd_same) (l.to (Kp.new hq))⟩
theorem lone_dK {q : Addr} {kvs : List (Key × V)} {ds : List (PyData × PyData)} (R : Rl K p O σ H s) (hq : H q = none) (l : AtK K O H kvs ds) :
    Rl K p (O.with q) σ (upd H q (.dK kvs)) s ∧ Kp O H (O.with q) (upd H q (.dK kvs)) ∧ Lone K p (O.with q) σ (upd H q (.dK kvs)) s q (dicD false ds) :=
  ⟨R.newOwn hq, Kp.newOwn hq, .inr rfl, (R.fresh hq).1, (R.fresh hq).2.1, .dicK upd_same (l.to (Kp.newOwn hq)), (R.fresh hq).2.2⟩
def enKD (ds : List PyData) : List (PyData × PyData) := ds.mapIdx fun i d => (.int (i : Nat), d)
@[simp] def tDE (t : PTE) : PTE := fun s Q => t s fun d s' => ∃ ds, d = .tuple ds ∧ ds.length ≤ sizeLine ∧ Q (dicD false (mergeD [] (enKD ds))) s'
theorem atK_en {xs : List V} {ds : List PyData} (h : AtL K O H xs ds) : AtK K O H (xs.mapIdx fun i y => ((Sum.inl (i : Int) : Key), y)) (enKD ds) := by
  have go : ∀ (xs : List V) (ds : List PyData) (f : Nat → Nat), AtL K O H xs ds → AtK K O H (xs.mapIdx fun i y => ((Sum.inl ((f i : Nat) : Int) : Key), y)) (ds.mapIdx fun i d => (.int ((f i : Nat) : Int), d)) := fun xs => by
    induction xs with
    | nil => intro ds f h; cases h; exact .nil
    | cons x xs ih =>
      intro ds f h
      cases h with
      | cons h1 h2 =>
        rw [List.mapIdx_cons, List.mapIdx_cons]
        exact .cons (k := Sum.inl ((f 0 : Nat) : Int)) h1 (ih _ (fun i => f (i + 1)) h2)
  exact go xs ds id h
theorem df_dictEn (hc : X.calm = true) (hg : Gl X "dict") (hm : X.mg "dict" = none) (hg2 : Gl X "enumerate") (hm2 : X.mg "enumerate" = none) (he : DE X e te) (hs : starEach [e] X.env = (false, eval e X.env) :: starEach [] X.env := by rfl)
    (hs2 : starEach [.Call (.Name "enumerate" p2) [e] [] p3] X.env = (false, eval (.Call (.Name "enumerate" p2) [e] [] p3) X.env) :: starEach [] X.env := by rfl) :
    DF X (.Call (.Name "dict" p1) [.Call (.Name "enumerate" p2) [e] [] p3] [] pos) (tDE te) :=
  ⟨PE.weak (pe_dictEnum hc hg hm hg2 hm2 he.pe hs hs2) fun σ H Q ⟨p, O, s, R, q⟩ => ⟨p, O, s, R, he.mono _ _ _ (fun d s' ⟨ds, ed, hz, k⟩ v O' H' R' k' av => by
      subst ed
      cases av with
      | tup h1 h2 =>
        refine ⟨_, _, rfl, h1.sq, by rw [h2.len]; exact hz, fun D hD => ?_⟩
        obtain ⟨f1, f2, f3⟩ := lone_dK R' hD (AtK.merge .nil (atK_en h2))
        exact k _ _ _ f1 (k'.trans f2) f3) q⟩,
    fun s Q Q' w q => he.mono _ _ _ (fun d s' ⟨ds, ed, hz, k⟩ => ⟨ds, ed, hz, w _ _ k⟩) q⟩
/-- list(d.items()) -/
def itemsOfD : PyData → Option (List PyData)
  | .dict ((.bool false, .none) :: ds) => some (ds.map fun q => .tuple [q.1, q.2])
  | _ => none
@[simp] theorem itemsOfD_dic (ds : List (PyData × PyData)) : itemsOfD (dicD false ds) = some (ds.map fun q => .tuple [q.1, q.2]) := rfl
@[simp] def tItems (t : PTL) : PTE := fun s Q => t s fun r s' => ∃ d l, rd s' r = some d ∧ itemsOfD d = some l ∧ Q (.list l) s'
theorem de_items (hc : X.calm = true) (he : DL X e tl) (hg : Gl X "list") (hm : X.mg "list" = none) (hbase : attributeBase e "items" X.env (eval e X.env) = eval e X.env := by rfl) (hline : (apos.endLine == cpos.line) = true := by rfl)
    (hs : starEach [.Call (.Attribute e "items" apos) [] [] cpos] X.env = (false, eval (.Call (.Attribute e "items" apos) [] [] cpos) X.env) :: starEach [] X.env := by rfl) :
    DE X (.Call (.Name "list" p1) [.Call (.Attribute e "items" apos) [] [] cpos] [] pos) (tItems tl) :=
  ⟨PE.weak (pe_itemsR hc he.pe hg hm (by decide +kernel) hbase hline hs) fun σ H Q ⟨p, O, s, R, q⟩ => ⟨p, O, s, R, he.mono _ _ _ (fun r s' ⟨d, l, er, el, k⟩ v O' H' R' k' av => by
      have ae := R'.read av er
      unfold itemsOfD at el
      split at el
      · rename_i ds
        cases el
        obtain ⟨b, ev, z⟩ := AtE.dic (t := false) ae
        subst ev
        rcases z with ⟨_, kvs, r1, l1⟩ | ⟨z, _⟩
        · refine ⟨b, kvs, rfl, r1, fun H2 q2 ts g hq hts e1 e2 => ?_⟩
          obtain ⟨R2, k2⟩ := R'.grow g
          refine k _ O' H2 R2 (k'.trans k2) (.lst ⟨R'.nown hq, e1⟩ ?_)
          have go : ∀ (ts : List Addr) (kvs : List (Key × V)) (ds : List (PyData × PyData)), (∀ t ∈ ts, H' t = none) → Paired (fun (t : Addr) (q : Key × V) => H2 t = some (.tup [kV q.1, q.2])) ts kvs → AtK X.K O' H' kvs ds → AtL X.K O' H2 (ts.map V.ref) (ds.map fun q => .tuple [q.1, q.2]) := fun ts => by
            induction ts with
            | nil => intro kvs ds _ h1 h2; cases h1; cases h2; exact .nil
            | cons t ts ih =>
              intro kvs ds hn h1 h2
              cases h1 with
              | cons a1 a2 =>
                cases h2 with
                | cons b1 b2 =>
                  exact .cons (.tup ⟨R'.nown (hn t List.mem_cons_self), a1⟩ (.cons (at_kV _) (.cons (b1.to k2) .nil))) (ih _ _ (fun y hy => hn y (List.mem_cons_of_mem _ hy)) a2 b2)
          exact go ts kvs ds hts e2 l1
        · cases z
      · cases el) q⟩,
    fun s Q Q' w q => he.mono _ _ _ (fun r s' ⟨d, l, er, el, k⟩ => ⟨d, l, er, el, w _ _ k⟩) q⟩
/-- the rows of pairs as what a dict is made of -/
def pairsD : List PyData → Option (List (PyData × PyData))
  | [] => some []
  | .tuple [k, d] :: ds => if keyFits false k = true then (pairsD ds).map ((k, d) :: ·) else none
  | _ => none
def dictD : List PyData → Option (List (PyData × PyData))
  | [.list ds] => pairsD ds
  | _ => none
theorem atK_pairs {xs : List V} : ∀ {ds : List PyData} {ps : List (PyData × PyData)}, AtL K O H xs ds → pairsD ds = some ps → ∃ (as : List Addr) (kvs : List (Key × V)), xs = as.map V.ref ∧ Paired (fun p kv => SqT K H p [kV kv.1, kv.2]) as kvs ∧ AtK K O H kvs ps := by
  induction xs with
  | nil =>
    intro ds ps h e
    cases h
    cases e
    exact ⟨[], [], rfl, .nil, .nil⟩
  | cons x xs ih =>
    intro ds ps h e
    cases h with
    | cons h1 h2 =>
      rename_i d ds
      unfold pairsD at e
      split at e
      · rename_i h; cases h
      · rename_i k d' ds' heq
        injection heq with e1 e2
        subst e1 e2
        split at e
        · rename_i hk
          cases e3 : pairsD ds with
          | none => rw [e3] at e; cases e
          | some ps' =>
            rw [e3] at e
            cases e
            obtain ⟨as, kvs, ex, hp, ha⟩ := ih h2 e3
            subst ex
            obtain ⟨k', rfl⟩ := keyOf_some (show (keyOf k).isSome = true from hk)
            cases h1 with
            | tup s1 l1 =>
              cases l1 with
              | cons c1 l1 =>
                cases l1 with
                | cons c2 l1 =>
                  cases l1
                  have ek := c1.key
                  subst ek
                  exact ⟨_ :: as, (k', _) :: kvs, rfl, .cons s1.sq hp, .cons c2 ha⟩
        · cases e
      · cases e
@[simp] def tDic (t : PTLs) : PTE := fun s Q => t s fun rs s' => ∃ ds ps, rds s' rs = some ds ∧ dictD ds = some ps ∧ Q (dicD false (mergeD [] ps)) s'
theorem df_dict {t : PTLs} (hc : X.calm = true) (ha : DLs X [e] t) (hg : Gl X "dict") (hm : X.mg "dict" = none) (hs : starEach [e] X.env = (false, eval e X.env) :: starEach [] X.env := by rfl) (hpl : (backTo pos (starEach ([] : List Expr) X.env)).any (·.1) = false := by rfl) :
    DF X (.Call (.Name "dict" p1) [e] [] pos) (tDic t) :=
  ⟨PE.weak (pe_callTy (call_dictP hc) hg hm bt_dict ha.pa (by decide) (by decide) hs hpl) fun σ H Q ⟨p, O, s, R, q⟩ => ⟨p, O, s, R, ha.mono _ _ _ (fun rs s' ⟨ds, ps, e1, e2, q⟩ vs O' H' R' k' a => by
      have ae := R'.reads a e1
      unfold dictD at e2
      split at e2
      · obtain ⟨v, rfl, av⟩ := ae.one
        obtain ⟨b, xs, rfl, h1, h2⟩ := av.lst
        obtain ⟨as, kvs, ex, hp, hk⟩ := atK_pairs h2 e2
        subst ex
        refine ⟨b, as, kvs, rfl, SqL.of h1, hp, fun D hD => ?_⟩
        obtain ⟨f1, f2, f3⟩ := lone_dK R' hD (AtK.merge .nil hk)
        exact q _ _ _ f1 (k'.trans f2) f3
      · cases e2) q⟩,
    fun s Q Q' w q => ha.mono _ _ _ (fun rs s' ⟨ds, ps, e1, e2, q⟩ => ⟨ds, ps, e1, e2, w _ _ q⟩) q⟩
end
end PD
end
section
set_option Elab.async false
set_option linter.all false
set_option maxRecDepth 100000
set_option maxHeartbeats 4000000
/-! PD24: dict comprehensions (keys numbers or texts); str(number). -/
namespace PD
open PySem PySem.Spec PyProof.Rows L2
section
variable {K : PySem.W.Frag} {X : Cx} {p : Pm} {O O' : Ow} {σ σ' : L2.St} {H H' : Hp} {s s' : PSt} {v : V} {d : PyData} {a : Addr} {e ea eb tg : Expr} {es : List Expr} {pos ppos : Pos}
/-- the turns of a dict comprehension -/
def dRun (g : PTG) (tt : PTT) (tk tv : PTE) (vs : List Nat) (G : List Sl) : List PyData → List (PyData × PyData) → List PyData → (List (PyData × PyData) → List PyData → Prop) → Prop
  | [], out, hd, Q => Q out hd
  | d :: ds, out, hd, Q => g d ⟨blkG G vs, hd⟩ fun s1 => tt s1 fun b s2 => if b = true then tk s2 fun k s3 => tv s3 fun y s4 => keyFits false k = true ∧ dRun g tt tk tv vs G ds (insD k y out) s4.hd Q else dRun g tt tk tv vs G ds out s2.hd Q
theorem dRun_mono {g : PTG} {tt : PTT} {tk tv : PTE} {vs : List Nat} {G : List Sl} (hg : ∀ d s Q Q', (∀ s', Q s' → Q' s') → g d s Q → g d s Q') (ht : MonoT tt) (hk : Mono tk) (hv : Mono tv) {Q Q' : List (PyData × PyData) → List PyData → Prop} (w : ∀ o h, Q o h → Q' o h) :
    ∀ (ds : List PyData) (out : List (PyData × PyData)) (hd : List PyData), dRun g tt tk tv vs G ds out hd Q → dRun g tt tk tv vs G ds out hd Q'
  | [], _, _, q => w _ _ q
  | d :: ds, out, hd, q => hg _ _ _ _ (fun s1 => ht _ _ _ fun b s2 q => by
      cases b with
      | true => exact hk _ _ _ (fun k s3 => hv _ _ _ fun y s4 ⟨f, q⟩ => ⟨f, dRun_mono hg ht hk hv w ds _ _ q⟩) q
      | false => exact dRun_mono hg ht hk hv w ds _ _ q) q
@[simp] def tDcomp (ti : PTI) (g : PTG) (tt : PTT) (tk tv : PTE) (vs : List Nat) : PTE := fun s Q => ti s fun items s1 => items.length ≤ sizeLine ∧ dRun g tt tk tv vs s1.G items [] s1.hd fun out hd => Q (dicD false out) { s1 with hd := hd }
theorem insD_len (k d : PyData) (ds : List (PyData × PyData)) : (insD k d ds).length ≤ ds.length + 1 := by
  unfold insD
  split <;> simp
variable {iter kx vx : Expr} {ifs : List Expr} {scope : Scope} {own : List (Str × Nat)}
theorem dc_read {ti : PTI} {g : PTG} {tt : PTT} {tk tv : PTE} {vs ws : List Nat} {Q : VK} (hi : ∀ s Q Q', (∀ d s', Q d s' → Q' d s') → ti s Q → ti s Q') (hg : ∀ d s Q Q', (∀ s', Q s' → Q' s') → g d s Q → g d s Q') (ht : MonoT tt) (hk : Mono tk) (hv : Mono tv)
    (hw : ∀ w ∈ ws, w ∈ vs) (h : liftF K (tDcomp ti g tt tk tv vs) σ H Q) : tDc (liftI K true ti) (liftG K ws g) (liftT K tt) (lift K tk) (lift K tv) vs σ H Q := by
  obtain ⟨p, O, s, R, q⟩ := h
  refine ⟨p, O, s, R, hi _ _ _ (fun items s1 ⟨hsz, q1⟩ J O1 H1 R1 k1 it D hD => ?_) q⟩
  obtain ⟨f0, fh, fm⟩ := R1.fresh hD
  generalize hF : (fun out hd => ∀ a O' H', Rl K p O' σ H' { s1 with hd := hd } → Kp O H O' H' → Lone K p O' σ H' { s1 with hd := hd } a (dicD false out) → Q (.ref a) H' : List (PyData × PyData) → List PyData → Prop) = F at q1
  let S : Nat → Hp → Prop := fun i H => ∃ O2 out acc hd, Rl K p O2 σ H { s1 with hd := hd } ∧ Stand true p O1 H1 O2 H ∧ O2 D ∧ H D = some (.dK acc) ∧ AtK K O2 H acc out ∧ out.length ≤ i ∧ dRun g tt tk tv vs s1.G (items.drop i) out hd F
  refine ⟨fun i m H => m = items.length - i ∧ i ≤ items.length ∧ S i H, ⟨items.length, by simp, Nat.zero_le _, O1.with D, [], [], s1.hd, R1.newOwn hD, ⟨Kp.newOwn hD, fun _ a o e n => ?_⟩, .inr rfl, upd_same, .nil, Nat.le_refl _, q1⟩, ?_⟩
  · rw [upd_ne fun z => by rw [z, hD] at e; cases e]; exact e
  · rintro i m H2 ⟨rfl, hle, O2, out, acc, hd, R2, st, oD, eD, al, ol, c⟩
    by_cases hlt : i < items.length
    · refine .inr ⟨it.go i O2 H2 st hlt, S (i + 1), fun H' w => ⟨items.length - (i + 1), by omega, rfl, hlt, w⟩, fun x H3 y => ?_⟩
      obtain ⟨alt, ax⟩ := it.yld i O2 H2 x H3 items[i] st R2.dom (List.getElem?_eq_getElem hlt) y
      have step : Rl K p O2 σ H3 { s1 with hd := hd } ∧ Kp O2 H2 O2 H3 ∧ ∀ a o, H2 a = some o → H3 a = some o := by
        rcases alt with z | ⟨b, o, hb, z⟩
        · subst z; exact ⟨R2, .refl, fun _ _ h => h⟩
        · subst z
          exact ⟨R2.new hb, Kp.new hb, fun a u e => by rw [upd_ne fun z => by rw [z, hb] at e; cases e]; exact e⟩
      obtain ⟨R3, k3, st3⟩ := step
      rw [List.drop_eq_getElem_cons hlt] at c
      have RB := R3.into vs
      have fin : ∀ {O4 σ4 H4} {s4 : PSt}, Rl K ⟨p.ha, H3, O2⟩ O4 σ4 H4 s4 → Kp O2 H3 O4 H4 → Rl K p O4 σ H4 { s1 with hd := s4.hd } ∧ Stand true p O1 H1 O4 H4 ∧ O4 D ∧ H4 D = some (.dK acc) ∧ AtK K O4 H4 acc out := fun {O4 σ4 H4 s4} R4 k4 =>
        ⟨R3.back R4 k4, ⟨st.1.trans (k3.trans k4), fun _ a o e n => R4.frm a o (st3 a o (st.2 rfl a o e n)) n⟩, R4.o0 D oD, R4.frm D _ (st3 D _ eD) fh, al.to (k3.trans k4)⟩
      refine ⟨⟨p.ha, H3, O2⟩, O2, _, items[i], RB, ax, hg _ _ _ _ (fun sA qA σA RA uA => ⟨by rw [uA vs hw, wipe_idem], ⟨p.ha, H3, O2⟩, O2, sA, RA, ht _ _ _ (fun b sB qB O4 H4 R4 k4 => ?_) qA⟩) c⟩
      cases b with
      | true =>
        refine ⟨⟨p.ha, H3, O2⟩, O4, sB, R4, hk _ _ _ (fun kd sC qC kv O5 H5 R5 k5 ak => ⟨⟨p.ha, H3, O2⟩, O5, sC, R5, hv _ _ _ (fun y sE ⟨ff, qE⟩ u O6 H6 R6 k6 au => ?_) qC⟩) qB⟩
        obtain ⟨k', rfl⟩ := keyOf_some (show (keyOf kd).isSome = true from ff)
        have ek := ak.key
        subst ek
        obtain ⟨g1, g2, g3, g4, g5⟩ := fin R6 (k4.trans (k5.trans k6))
        obtain ⟨R7, k7⟩ := g1.putD (o := .dK (putK acc k' u)) g3 f0 fh fm
        refine ⟨acc, k', rfl, g4, by rw [g5.length]; omega, O6, insD (keyD k') y out, putK acc k' u, sE.hd, R7, ⟨g2.1.trans k7, fun _ a o e n => ?_⟩, g3, upd_same, (g5.to k7).put (au.to k7), Nat.le_trans (insD_len _ _ _) (Nat.succ_le_succ ol), qE⟩
        rw [upd_ne fun z => by rw [z, hD] at e; cases e]
        exact g2.2 rfl a o e n
      | false =>
        obtain ⟨g1, g2, g3, g4, g5⟩ := fin R4 k4
        exact ⟨O4, out, acc, sB.hd, g1, g2, g3, g4, g5, Nat.le_succ_of_le ol, qB⟩
    · have ei : i = items.length := by omega
      subst ei
      rw [List.drop_length] at c
      refine .inl ⟨it.stop _ O2 H2 st (Nat.le_refl _), ?_⟩
      subst hF
      exact c D O2 H2 R2 (k1.trans st.1) ⟨oD, f0, fh, .dicK eD al, fm⟩
theorem mono_dcomp {ti : PTI} {g : PTG} {tt : PTT} {tk tv : PTE} {vs : List Nat} (hi : ∀ s Q Q', (∀ d s', Q d s' → Q' d s') → ti s Q → ti s Q') (hg : ∀ d s Q Q', (∀ s', Q s' → Q' s') → g d s Q → g d s Q') (ht : MonoT tt) (hk : Mono tk) (hv : Mono tv) : Mono (tDcomp ti g tt tk tv vs) :=
  fun s Q Q' w q => hi _ _ _ (fun items s1 ⟨z, q⟩ => ⟨z, dRun_mono hg ht hk hv (fun o h => w _ _) _ _ _ q⟩) q
theorem df_dc {ti : PTI} {g : PTG} {tt : PTT} {tk tv : PTE} {ws : List Nat} (hc : X.calm = true) (hN : X.N.Nodup) (hi : DI X true tg iter ti) (ok : BlkOk X.N X.env.scope scope own)
    (hg : Blk X scope fun Y => DG Y tg ws g) (ht : Blk X scope fun Y => DTs Y ifs tt) (hk : Blk X scope fun Y => DE Y kx tk) (hv : Blk X scope fun Y => DE Y vx tv) (hw : ∀ w ∈ ws, w ∈ own.map (·.2)) (hs : ∀ x, foldedSetIterable iter X.env x = pure x := by intro _; rfl) :
    DF X (.DictComp kx vx [⟨tg, iter, ifs, 0⟩] scope pos) (tDcomp ti g tt tk tv (own.map (·.2))) := by
  have h0 := hg X.s_0 X.H_0 0 [] []
  have h1 := ht X.s_0 X.H_0 0 [] []
  have h2 := hk X.s_0 X.H_0 0 [] []
  have h3 := hv X.s_0 X.H_0 0 [] []
  exact ⟨PE.weak (pe_dc hc hN hi.pi ok (fun s H C cl fp => (hg s H C cl fp).pg) (fun s H C cl fp => (ht s H C cl fp).pt) (fun s H C cl fp => (hk s H C cl fp).pe) (fun s H C cl fp => (hv s H C cl fp).pe) hs) fun σ H Q q => dc_read hi.mono h0.mono h1.mono h2.mono h3.mono hw q, mono_dcomp hi.mono h0.mono h1.mono h2.mono h3.mono⟩
/-- a dict comprehension over typed items, the hand left -/
theorem dRun_of {α : Type} {g : PTG} {tk tv : PTE} {vs : List Nat} {G : List Sl} {hd : List PyData} (c : α → PyData) (f h : α → PyData) (l : List α)
    (hh : ∀ a ∈ l, keyFits false (f a) = true ∧ ∀ (Y : PyData → PyData → List PyData → Prop), Y (f a) (h a) hd → g (c a) ⟨blkG G vs, hd⟩ fun s1 => tk s1 fun k s3 => tv s3 fun y s4 => Y k y s4.hd)
    (hm : ∀ s Q Q', (∀ d s', Q d s' → Q' d s') → tk s Q → tk s Q') (hm2 : ∀ s Q Q', (∀ d s', Q d s' → Q' d s') → tv s Q → tv s Q') (hm3 : ∀ d s Q Q', (∀ s', Q s' → Q' s') → g d s Q → g d s Q')
    (out : List (PyData × PyData)) (Q : List (PyData × PyData) → List PyData → Prop) (q : Q (mergeD out (l.map fun a => (f a, h a))) hd) : dRun g tYs tk tv vs G (l.map c) out hd Q := by
  induction l generalizing out with
  | nil => exact q
  | cons a l ih =>
    rw [List.map_cons]
    unfold dRun
    obtain ⟨h1, h2⟩ := hh a List.mem_cons_self
    have z := h2 (fun k y hd' => k = f a ∧ y = h a ∧ hd' = hd) ⟨rfl, rfl, rfl⟩
    refine hm3 _ _ _ _ (fun s1 => ?_) z
    intro z
    show tk s1 _
    refine hm _ _ _ (fun k s3 => hm2 _ _ _ fun y s4 ⟨e1, e2, e3⟩ => ?_) z
    subst e1 e2
    rw [e3]
    exact ⟨h1, ih (fun x hx => hh x (List.mem_cons_of_mem _ hx)) _ q⟩
/-! ### str(i) -/
def strD : List PyData → Option PyData
  | [.int i] => if i.natAbs.log2 < 1920 then some (.str (toString i)) else none
  | [.str x] => some (.str x)
  | _ => none
theorem call_strP : CallD X (.type "str") strD := by
  intro pins sh σ H xs us Q I rv h
  obtain ⟨O, ds, z, a, e, k, _, _⟩ := h
  unfold strD at e
  split at e
  · split at e
    · rename_i i hz
      cases e
      obtain ⟨v, rfl, av⟩ := a.one
      cases av.int
      obtain ⟨u, rfl, t, rfl⟩ := vals1 rv
      exact PySem.P.str_of_int hz ⟨.str _, H, I.tok _, ⟨_, rfl⟩, k _ (.str _)⟩
    · cases e
  · cases e
    obtain ⟨v, rfl, av⟩ := a.one
    cases av.str
    obtain ⟨u, rfl, t, rfl⟩ := vals1 rv
    exact PySem.P.str_of_str ⟨.str _, H, I, ⟨t, rfl⟩, k _ (.str _)⟩
  · cases e
end
end PD
end
section
set_option Elab.async false
set_option linter.all false
set_option maxRecDepth 100000
set_option maxHeartbeats 4000000
/-! PD25: calls that only look at what a name alone holds; their answers are flat. -/
namespace PD
open PySem PySem.Spec PyProof.Rows L2
def flatD : PyData → Bool
  | .none => true
  | .bool _ => true
  | .int _ => true
  | .str _ => true
  | _ => false
@[simp] theorem flatD_bool (b : Bool) : flatD (.bool b) = true := rfl
@[simp] theorem flatD_int (i : Int) : flatD (.int i) = true := rfl
@[simp] theorem flatD_none : flatD .none = true := rfl
@[simp] theorem flatD_str (x : Str) : flatD (.str x) = true := rfl
section
variable {K : PySem.W.Frag} {X : Cx} {p : Pm} {O O' : Ow} {σ σ' : L2.St} {H H' : Hp} {s s' : PSt} {v : V} {d : PyData} {a : Addr} {e : Expr} {es : List Expr} {pos : Pos}
theorem At.flat (h : At K O H v d) (f : flatD d = true) : At K O' H' v d := by
  cases h <;> first | exact .non | exact .bl _ | exact .int _ | exact .str _ | cases f
theorem AtE.none' (h : AtE K O H v d) : At K (fun _ => False) H v d := h.at0
theorem AtEL.avs {vs : List V} {ds : List PyData} (h : AtEL K O H vs ds) : AvL K (fun _ => False) none H vs (ds.map .d) := by
  induction ds generalizing vs with
  | nil => cases h; exact .nil
  | cons d ds ih =>
    cases h with
    | cons h1 h2 => exact .d h1.at0 (ih h2)
@[simp] def tFnB (F : FSpec) (t : PTLs) : PTE := fun s Q => t s fun rs s' => ∃ ds, rds s' rs = some ds ∧ F (ds.map .d) s'.hd (fun d _ => flatD d = true ∧ Q d s') fun _ _ => False
theorem de_callLook {CX : CXT} {k : Nat} {f : Addr} {fd : FuncData} {ps : List Str} {F : FSpec} {x : Str} {p' : Pos} {t : PTLs} (G : FnG X.prog X.w X.K X.mg X.base CX k f fd ps (spD X.K false F)) (hF : MonoF F) (hr : RoomG k X.A) (hg : Gl X x) (hm : X.mg x = some (.ref f)) (hk : PySem.W.keepIn X.K (.ref f) = true) (hb : Binds X.K fd ps []) (hx : Passes CX X E0)
    (ha : DLs X (e :: es) t) (hdb : (x == ("__debug__" : Str)) = false := by decide) (he : starEach (e :: es) X.env = (false, eval e X.env) :: starEach es X.env := by rfl) (hpl : (backTo pos (starEach es X.env)).any (·.1) = false := by rfl) :
    DE X (.Call (.Name x p') (e :: es) [] pos) (tFnB F t) := by
  refine ⟨PE.weak (pe_callG G hr hg hm hk hb .nil hx ha.pa hdb he hpl) fun σ H Q ⟨p, O, s, R, q⟩ => ⟨p, O, s, R, ha.mono _ _ _ (fun rs s' ⟨ds, er, q⟩ vs O' H' R' k' a => ?_) q⟩, fun s Q Q' w q => ha.mono _ _ _ (fun rs s' ⟨ds, er, q⟩ => ⟨ds, er, hF _ _ _ _ _ _ (fun d _ ⟨z, q⟩ => ⟨z, w _ _ q⟩) (fun _ _ z => z) q⟩) q⟩
  show spD X.K _ F (vs ++ []) H' Q E0
  rw [List.append_nil]
  refine ⟨fun _ => False, none, ds.map .d, s'.hd, (fun _ z => nomatch z), (fun _ z => z.elim), (R'.reads a er).avs, hF _ _ _ _ _ _ (fun d hd ⟨fl, q⟩ v H2 f _ a2 => ?_) (fun _ _ z => z.elim) q⟩
  obtain ⟨R2, k2⟩ := R'.grow fun b o e => f b o e fun z => nomatch z
  exact q v O' H2 R2 (k'.trans k2) (At.flat (show At X.K (fun _ => False) H2 v d from a2) fl)
end
end PD
end
section
set_option Elab.async false
set_option linter.all false
set_option maxRecDepth 100000
set_option maxHeartbeats 4000000
/-! PM4: rows of flat data have a repr. -/
namespace PD
open PySem PySem.Spec PyProof.Rows L2
inductive FlatS : PyData → Prop
  | none : FlatS .none
  | bool (b : Bool) : FlatS (.bool b)
  | int (i : Int) : i.natAbs < 10 ^ 8 → FlatS (.int i)
  | str (x : Str) : (reprText x).length ≤ 40 → FlatS (.str x)
theorem FlatS.std {d : PyData} (h : FlatS d) : std d = d := by cases h <;> rw [PD.std]
theorem FlatS.show {d : PyData} (h : FlatS d) : d.showable = true ∧ d.hasDict = false ∧ d.depth = 0 ∧ d.shown.length ≤ 40 := by
  cases h with
  | none => exact ⟨by simp [PyData.showable], by simp [PyData.hasDict], by simp [PyData.depth], by simp only [PyData.shown]; decide⟩
  | bool b =>
    refine ⟨by simp [PyData.showable], by simp [PyData.hasDict], by simp [PyData.depth], ?_⟩
    simp only [PyData.shown]
    cases b <;> decide
  | int i h =>
    have lg : i.natAbs.log2 < 1920 := by
      by_cases z : i.natAbs = 0
      · rw [z]; decide
      · refine (Nat.log2_lt z).mpr (Nat.lt_of_lt_of_le h ?_)
        exact Nat.le_trans (show 10 ^ 8 ≤ 2 ^ 27 by decide) (Nat.pow_le_pow_right (by decide) (by decide))
    refine ⟨by simp [PyData.showable, lg], by simp [PyData.hasDict], by simp [PyData.depth], ?_⟩
    have := int_text_length_le10 (k := 8) (by decide) h
    simp only [PyData.shown]
    rw [PySem.ofString_length]
    omega
  | str x h => exact ⟨by simp [PyData.showable], by simp [PyData.hasDict], by simp [PyData.depth], by simp only [PyData.shown]; exact h⟩
theorem flat_all : ∀ {ds : List PyData}, (∀ d ∈ ds, FlatS d) → stdAll ds = ds ∧ PyData.showableAll ds = true ∧ PyData.hasDictAll ds = false ∧ PyData.depthAll ds = 0 ∧ piled (PyData.shownAll ds) ≤ 42 * ds.length
  | [], _ => ⟨by rw [stdAll], by rw [PyData.showableAll], by rw [PyData.hasDictAll], by rw [PyData.depthAll], by rw [PyData.shownAll]; exact Nat.le_refl _⟩
  | d :: ds, h => by
    obtain ⟨a1, a2, a3, a4, a5⟩ := flat_all fun x hx => h x (List.mem_cons_of_mem _ hx)
    have hd := h d List.mem_cons_self
    obtain ⟨b1, b2, b3, b4⟩ := hd.show
    refine ⟨by rw [stdAll, hd.std, a1], by rw [PyData.showableAll, b1, a2]; rfl, by rw [PyData.hasDictAll, b2, a3]; rfl, by rw [PyData.depthAll, b3, a4]; rfl, ?_⟩
    rw [PyData.shownAll, piled_cons, List.length_cons]
    omega
theorem tuple_len (ts : List Str) : (tupleText ts).length ≤ piled ts + 3 := by
  have e : (tupleText ts).length = 1 + (Str.join ", " ts).length + (if ts.length == 1 then 2 else 1) := by
    unfold tupleText
    rw [strLen_append, strLen_append]
    split <;> rfl
  have : (Str.join ", " ts).length ≤ piled ts := by
    by_cases h : ts = []
    · subst h; exact Nat.le_refl _
    · have := join_length_add ts h
      omega
  rw [e]
  split <;> omega
theorem from_len : ∀ (ts : List Str) (k : Nat) (acc : Str), (textFrom k acc ts).length ≤ acc.length + piled ts
  | [], k, acc => by show acc.length ≤ _; omega
  | t :: ts, k, acc => by
    have := from_len ts (k + 1) (acc ++ (if k > 0 then ", " else "" : String) ++ t)
    have e : (acc ++ (if k > 0 then ", " else "" : String) ++ t).length ≤ acc.length + 2 + t.length := by
      rw [strLen_append, strLen_append]
      have : (((if k > 0 then ", " else "" : String)) : Str).length ≤ 2 := by split <;> decide
      omega
    rw [piled_cons]
    show (textFrom (k + 1) _ ts).length ≤ _
    omega
theorem list_len (ts : List Str) : (listText ts).length ≤ piled ts + 2 := by
  have := from_len ts 0 "["
  have e1 : (("[" : String) : Str).length = 1 := rfl
  have e2 : (("]" : String) : Str).length = 1 := rfl
  unfold listText
  rw [strLen_append]
  omega
theorem okShow_tuple {ds : List PyData} (h : ∀ d ∈ ds, FlatS d) (hl : ds.length ≤ 1000) : okShow (.tuple ds) = true := by
  obtain ⟨a1, a2, a3, a4, a5⟩ := flat_all h
  have := tuple_len (PyData.shownAll ds)
  unfold okShow
  rw [std, a1]
  have e : (PyData.tuple ds).shown = tupleText (PyData.shownAll ds) := by rw [PyData.shown]
  have z : (PyData.tuple ds).shown.length ≤ sizeLine := by rw [e]; simp only [sizeLine]; omega
  simp [PyData.showable, PyData.hasDict, PyData.depth, a2, a3, a4, z]
theorem okShow_list {ds : List PyData} (h : ∀ d ∈ ds, FlatS d) (hl : ds.length ≤ 1000) : okShow (.list ds) = true := by
  obtain ⟨a1, a2, a3, a4, a5⟩ := flat_all h
  have := list_len (PyData.shownAll ds)
  unfold okShow
  rw [std, a1]
  have e : (PyData.list ds).shown = listText (PyData.shownAll ds) := by rw [PyData.shown]
  have z : (PyData.list ds).shown.length ≤ sizeLine := by rw [e]; simp only [sizeLine]; omega
  simp [PyData.showable, PyData.hasDict, PyData.depth, a2, a3, a4, z]
theorem okShow_flat {d : PyData} (h : FlatS d) : okShow d = true := by
  obtain ⟨b1, b2, b3, b4⟩ := h.show
  unfold okShow
  rw [h.std, b1, b2, b3]
  simp
  simp only [sizeLine]
  omega
theorem okShow_nodict : okShow (dicD false []) = true := by
  unfold okShow dicD
  rw [std, stdKv]
  simp [PyData.showable, PyData.showableKv, PyData.hasDict, PyData.depth, PyData.shown, PyData.shownKv, noL, noLKv]
  decide
end PD
end
section
set_option Elab.async false
set_option linter.all false
set_option maxRecDepth 100000
set_option maxHeartbeats 4000000
open PySem PySem.Spec PyProof.Rows L2 PD
namespace Lw
def t_is_integer : PTS :=
  (tSq (tRt false (tAnV (tIsa PyData.isInt (tSl 0)) (tNtV (tOf (tIsa PyData.isBool (tSl 0))))))
  tNx)
def t_is_within (S_is_integer : FSpec) : PTS :=
  (tSq (tRt false (tAnV (tFn S_is_integer (tCnV (tVr 0) tNlV)) (tChn leD leD (tSl 1) (tSl 0) (tSl 2))))
  tNx)
def t_is_sized : PTS :=
  (tSq (tRt false (tAnV (tIsa PyData.isTuple (tSl 0)) (tChn leD leD (tSl 1) (tOf (tCl lenD (tCnL (tSl 0) tNlL))) (tSl 2))))
  tNx)
def t_are_rising : PTS :=
  (tSq (tRt false (tCl allD (tCnL (tOf (tComp (tZp (tCn (tVr 0) (tCn (tSlc slD (tSl 0) (tPrt (tK (.int 1))) tNoP) tNl))) (gTu 2 (gCo (gN 1) (gCo (gN 2) gNi))) tYs (tBin ltD (tSl 1) (tSl 2)) [1, 2])) tNlL)))
  tNx)
def t_is_lot (S_is_within S_are_rising : FSpec) : PTS :=
  (tSq (tIfc (tOr (tNt (tBo (tIsa PyData.isTuple (tSl 0)))) (tNt (tBo (tCl allD (tCnL (tOf (tComp (tWkL (tSl 0)) (gN 2) tYs (tFn S_is_within (tCnV (tVr 2) (tCnV (tK (.int 0)) (tCnV (tBin subD (tSl 1) (tOf (tK (.int 1)))) tNlV)))) [2])) tNlL))))) (tSq (tRt false (tK (.bool false)))
  tNx) tNx)
  (tSq (tRt false (tFn S_are_rising (tCnV (tVr 0) tNlV)))
  tNx))
def t_is_order (S_is_integer S_is_sized : FSpec) : PTS :=
  (tSq (tIfc (tOr (tNt (tBo (tFn S_is_sized (tCnV (tVr 0) (tCnV (tVr 1) (tCnV (tVr 1) tNlV)))))) (tNt (tBo (tCl allD (tCnL (tOf (tComp (tWkL (tSl 0)) (gN 2) tYs (tFn S_is_integer (tCnV (tVr 2) tNlV)) [2])) tNlL))))) (tSq (tRt false (tK (.bool false)))
  tNx) tNx)
  (tSq (tRt false (tBin eqD (tOf (tClF sortedD (tCnL (tSl 0) tNlL))) (tOf (tLr (tVr 1)))))
  tNx))
def t_all_orders : PTS :=
  (tSq (tAs false (tLs (tCn (tTp tNl) tNl)) 1)
  (tSq (tFo (tRg1 (tCn (tVr 0) tNl)) (gN 2) (tSq (tAs true (tLs tNl) 3)
  (tSq (tFo (tWk (tVr 1)) (gN 4) (tSq (tEx (tExt 3 (tComp (tRg1 (tCn (tVr 0) tNl)) (gN 5) (tBo (tBin notInD (tSl 5) (tSl 4))) (tBin addD (tSl 4) (tOf (tTp (tCn (tVr 5) tNl)))) [5])))
  tNx))
  (tSq (tAs false (tVr 3) 1)
  tNx))))
  (tSq (tRt false (tVr 1))
  tNx)))
def t_are_stages (S_is_sized S_is_lot : FSpec) : PTS :=
  (tSq (tIfc (tOr (tNt (tBo (tFn S_is_sized (tCnV (tVr 0) (tCnV (tK (.int 1)) (tCnV (tK (.int 10)) tNlV)))))) (tNt (tBo (tCl allD (tCnL (tOf (tComp (tWkL (tSl 0)) (gN 1) tYs (tFn S_is_lot (tCnV (tVr 1) (tCnV (tCl lenD (tCnL (tSl 0) tNlL)) tNlV))) [1])) tNlL))))) (tSq (tRt false (tK (.bool false)))
  tNx) tNx)
  (tSq (tRt false (tNtV (tOf (tCl anyD (tCnL (tOf (tComp (tEn (tCn (tVr 0) tNl)) (gTu 2 (gCo (gN 2) (gCo (gN 1) gNi))) tYs (tBin inD (tSl 2) (tSl 1)) [2, 1])) tNlL)))))
  tNx))
def t_check_stages (S_are_stages : FSpec) : PTS :=
  (tSq (tIfc (tNt (tBo (tFn S_are_stages (tCnV (tVr 0) tNlV)))) (tSq (fun _ _ => False)
  tNx) tNx)
  tNx)
def t_least_order : PTS :=
  (tSq (tAs true (tLs tNl) 1)
  (tSq (tWh (tBo (tBin ltD (tOf (tCl lenD (tCnL (tSl 1) tNlL))) (tOf (tCl lenD (tCnL (tSl 0) tNlL))))) (tSq (tAs true (tComp (tRg1 (tCn (tCl lenD (tCnL (tSl 0) tNlL)) tNl)) (gN 3) (tAn (tBo (tBin notInD (tSl 3) (tSl 1))) (tBo (tCl allD (tCnL (tOf (tComp (tWk (tBin ixD (tSl 0) (tSl 3))) (gN 4) tYs (tBin inD (tSl 4) (tSl 1)) [4])) tNlL)))) (tVr 3) [3]) 2)
  (tSq (tIfc (tBo (tBin eqD (tOf (tCl lenD (tCnL (tSl 2) tNlL))) (tOf (tK (.int 0))))) (tSq (tRt false (tK .none))
  tNx) tNx)
  (tSq (tEx (tApp 1 (tBin ixD (tSl 2) (tOf (tK (.int 0))))))
  tNx))))
  (tSq (tRt false (tCl tupleD (tCnL (tSl 1) tNlL)))
  tNx)))
def t_keeps_needs : PTS :=
  (tSq (tAs false (tDcomp (tEn (tCn (tVr 1) tNl)) (gTu 2 (gCo (gN 3) (gCo (gN 4) gNi))) tYs (tVr 4) (tVr 3) [3, 4]) 2)
  (tSq (tFo (tEn (tCn (tVr 0) tNl)) (gTu 2 (gCo (gN 4) (gCo (gN 5) gNi))) (tSq (tIfc (tBo (tCl anyD (tCnL (tOf (tComp (tWkL (tSl 5)) (gN 6) tYs (tBin gtD (tOf (tBin ixD (tSl 2) (tSl 6))) (tOf (tBin ixD (tSl 2) (tSl 4)))) [6])) tNlL))) (tSq (tRt false (tK (.bool false)))
  tNx) tNx)
  tNx))
  (tSq (tRt false (tK (.bool true)))
  tNx)))
def t_check_ringless (S_check_stages S_least_order : FSpec) : PTS :=
  (tSq (tEx (tFn S_check_stages (tCnV (tVr 0) tNlV)))
  (tSq (tAs false (tFn S_least_order (tCnV (tVr 0) tNlV)) 1)
  (tSq (tIfc (tBo (tBin isD (tSl 1) (tOf (tK .none)))) (tSq (fun _ _ => False)
  tNx) tNx)
  (tSq (tRt false (tVr 1))
  tNx))))
def t_check_times (S_is_within S_is_sized S_check_ringless : FSpec) : PTS :=
  (tSq (tAs false (tFn S_check_ringless (tCnV (tVr 0) tNlV)) 2)
  (tSq (tIfc (tOr (tNt (tBo (tFn S_is_sized (tCnV (tVr 1) (tCnV (tCl lenD (tCnL (tSl 0) tNlL)) (tCnV (tCl lenD (tCnL (tSl 0) tNlL)) tNlV)))))) (tNt (tBo (tCl allD (tCnL (tOf (tComp (tWkL (tSl 1)) (gN 3) tYs (tFn S_is_within (tCnV (tVr 3) (tCnV (tK (.int 0)) (tCnV (tK (.int 100)) tNlV)))) [3])) tNlL))))) (tSq (fun _ _ => False)
  tNx) tNx)
  (tSq (tRt false (tVr 2))
  tNx)))
def t_raw_ends : PTS :=
  (tSq (tAs true (tBin repL (tOf (tLs (tCn (tK (.int 0)) tNl))) (tOf (tCl lenD (tCnL (tSl 0) tNlL)))) 3)
  (tSq (tFo (tWk (tVr 2)) (gN 4) (tSq (tPut (tBin addD (tOf (tBin ixD (tSl 1) (tSl 4))) (tOf (tCl maxOfD (tCnL (tOf (tBin addD (tOf (tLs (tCn (tK (.int 0)) tNl))) (tOf (tComp (tWk (tBin ixD (tSl 0) (tSl 4))) (gN 5) tYs (tBin ixD (tSl 3) (tSl 5)) [5])))) tNlL)))) 3 (tVr 4))
  tNx))
  (tSq (tRtV 3)
  tNx)))
def t_ends_of (S_check_times S_raw_ends : FSpec) : PTS :=
  (tSq (tAs false (tFn S_check_times (tCnV (tVr 0) (tCnV (tVr 1) tNlV))) 2)
  (tSq (tRt false (tCl tupleD (tCnL (tOf (tFn S_raw_ends (tCnV (tVr 0) (tCnV (tVr 1) (tCnV (tVr 2) tNlV))))) tNlL)))
  tNx))
def t_check_hands (S_is_within S_check_times : FSpec) : PTS :=
  (tSq (tEx (tFn S_check_times (tCnV (tVr 0) (tCnV (tVr 1) tNlV))))
  (tSq (tIfc (tNt (tBo (tFn S_is_within (tCnV (tVr 2) (tCnV (tK (.int 1)) (tCnV (tK (.int 4)) tNlV)))))) (tSq (fun _ _ => False)
  tNx) tNx)
  tNx))
def t_worked_at : PTS :=
  (tSq (tRt false (tCl lenD (tCnL (tOf (tComp (tWkN 0) (gN 3) (tBo (tChn leD ltD (tOf (tBin ixD (tSl 0) (tSl 3))) (tSl 2) (tOf (tBin addD (tOf (tBin ixD (tSl 0) (tSl 3))) (tOf (tBin ixD (tSl 1) (tSl 3))))))) (tVr 3) [3])) tNlL)))
  tNx)
def t_is_let (S_worked_at : FSpec) : PTS :=
  (tSq (tRt false (tCl allD (tCnL (tOf (tComp (tWkN 0) (gN 3) tYs (tBin leD (tOf (tFn S_worked_at (tCnV (tVr 0) (tCnV (tVr 1) (tCnV (tBin ixD (tSl 0) (tSl 3)) tNlV))))) (tSl 2)) [3])) tNlL)))
  tNx)
def t_is_plan_for (S_is_within S_is_sized S_is_let : FSpec) : PTS :=
  (tSq (tIfc (tOr (tNt (tBo (tFn S_is_sized (tCnV (tVr 3) (tCnV (tCl lenD (tCnL (tSl 0) tNlL)) (tCnV (tCl lenD (tCnL (tSl 0) tNlL)) tNlV)))))) (tNt (tBo (tCl allD (tCnL (tOf (tComp (tWkL (tSl 3)) (gN 4) tYs (tFn S_is_within (tCnV (tVr 4) (tCnV (tK (.int 0)) (tCnV (tBin subD (tOf (tBin powD (tOf (tK (.int 10))) (tOf (tK (.int 40))))) (tOf (tK (.int 1)))) tNlV)))) [4])) tNlL))))) (tSq (tRt false (tK (.bool false)))
  tNx) tNx)
  (tSq (tFo (tEn (tCn (tVr 0) tNl)) (gTu 2 (gCo (gN 5) (gCo (gN 6) gNi))) (tSq (tIfc (tBo (tCl anyD (tCnL (tOf (tComp (tWkL (tSl 6)) (gN 7) tYs (tBin gtD (tOf (tBin addD (tOf (tBin ixD (tSl 3) (tSl 7))) (tOf (tBin ixD (tSl 1) (tSl 7))))) (tOf (tBin ixD (tSl 3) (tSl 5)))) [7])) tNlL))) (tSq (tRt false (tK (.bool false)))
  tNx) tNx)
  tNx))
  (tSq (tRt false (tFn S_is_let (tCnV (tDE (tVr 3)) (tCnV (tVr 1) (tCnV (tVr 2) tNlV)))))
  tNx)))
def t_is_plan (S_check_hands S_is_plan_for : FSpec) : PTS :=
  (tSq (tEx (tFn S_check_hands (tCnV (tVr 0) (tCnV (tVr 1) (tCnV (tVr 2) tNlV)))))
  (tSq (tRt false (tFn S_is_plan_for (tCnV (tVr 0) (tCnV (tVr 1) (tCnV (tVr 2) (tCnV (tVr 3) tNlV))))))
  tNx))
def t_raw_in_turn (S_is_let : FSpec) : PTS :=
  (tSq (tAs false (tDn false) 4)
  (tSq (tFo (tWk (tVr 3)) (gN 5) (tSq (tAs false (tCl maxOfD (tCnL (tOf (tBin addD (tOf (tLs (tCn (tK (.int 0)) tNl))) (tOf (tComp (tWk (tBin ixD (tSl 0) (tSl 5))) (gN 7) tYs (tBin addD (tOf (tBin ixD (tSl 4) (tSl 7))) (tOf (tBin ixD (tSl 1) (tSl 7)))) [7])))) tNlL)) 6)
  (tSq (tAs false (tClF sortedD (tCnL (tOf (tBin addD (tOf (tLs (tCn (tVr 6) tNl))) (tOf (tComp (tWkN 4) (gN 9) (tBo (tBin gtD (tOf (tBin addD (tOf (tBin ixD (tSl 4) (tSl 9))) (tOf (tBin ixD (tSl 1) (tSl 9))))) (tSl 6))) (tBin addD (tOf (tBin ixD (tSl 4) (tSl 9))) (tOf (tBin ixD (tSl 1) (tSl 9)))) [9])))) tNlL)) 8)
  (tSq (tFo (tWk (tVr 8)) (gN 10) (tSq (tAs false (tDic (tCnL (tOf (tBin addD (tOf (tItems (tSl 4))) (tOf (tLs (tCn (tTp (tCn (tVr 5) (tCn (tVr 10) tNl))) tNl))))) tNlL)) 11)
  (tSq (tIfc (tBo (tFn S_is_let (tCnV (tVr 11) (tCnV (tVr 1) (tCnV (tVr 2) tNlV))))) (tSq (tAs false (tVr 11) 4)
  (tSq (fun E s => E.bk s)
  tNx)) tNx)
  tNx)))
  tNx))))
  (tSq (tRt false (tCl tupleD (tCnL (tOf (tComp (tRg1 (tCn (tCl lenD (tCnL (tSl 0) tNlL)) tNl)) (gN 5) tYs (tBin ixD (tSl 4) (tSl 5)) [5])) tNlL)))
  tNx)))
def t_in_turn (S_is_order S_keeps_needs S_check_hands S_raw_in_turn : FSpec) : PTS :=
  (tSq (tEx (tFn S_check_hands (tCnV (tVr 0) (tCnV (tVr 1) (tCnV (tVr 2) tNlV)))))
  (tSq (tIfc (tOr (tNt (tBo (tFn S_is_order (tCnV (tVr 3) (tCnV (tCl lenD (tCnL (tSl 0) tNlL)) tNlV))))) (tNt (tBo (tFn S_keeps_needs (tCnV (tVr 0) (tCnV (tVr 3) tNlV)))))) (tSq (fun _ _ => False)
  tNx) tNx)
  (tSq (tRt false (tFn S_raw_in_turn (tCnV (tVr 0) (tCnV (tVr 1) (tCnV (tVr 2) (tCnV (tVr 3) tNlV))))))
  tNx)))
def t_end_of : PTS :=
  (tSq (tRt false (tCl maxOfD (tCnL (tOf (tComp (tZp (tCn (tVr 0) (tCn (tVr 1) tNl))) (gTu 2 (gCo (gN 2) (gCo (gN 3) gNi))) tYs (tBin addD (tSl 2) (tSl 3)) [2, 3])) tNlL)))
  tNx)
def t_raw_least_time (S_all_orders S_keeps_needs S_raw_in_turn S_end_of : FSpec) : PTS :=
  (tSq (tIfc (tBo (tBin gtD (tOf (tCl lenD (tCnL (tSl 0) tNlL))) (tOf (tK (.int 6))))) (tSq (fun _ _ => False)
  tNx) tNx)
  (tSq (tAs true (tLs tNl) 3)
  (tSq (tFo (tWk (tFn S_all_orders (tCnV (tCl lenD (tCnL (tSl 0) tNlL)) tNlV))) (gN 4) (tSq (tIfc (tBo (tFn S_keeps_needs (tCnV (tVr 0) (tCnV (tVr 4) tNlV)))) (tSq (tAs false (tFn S_raw_in_turn (tCnV (tVr 0) (tCnV (tVr 1) (tCnV (tVr 2) (tCnV (tVr 4) tNlV))))) 5)
  (tSq (tEx (tApp 3 (tTp (tCn (tFn S_end_of (tCnV (tVr 5) (tCnV (tVr 1) tNlV))) (tCn (tVr 5) tNl)))))
  tNx)) tNx)
  tNx))
  (tSq (tRt false (tCl minOfD (tCnL (tSl 3) tNlL)))
  tNx))))
def t_least_time (S_check_hands S_raw_least_time : FSpec) : PTS :=
  (tSq (tEx (tFn S_check_hands (tCnV (tVr 0) (tCnV (tVr 1) (tCnV (tVr 2) tNlV)))))
  (tSq (tRt false (tFn S_raw_least_time (tCnV (tVr 0) (tCnV (tVr 1) (tCnV (tVr 2) tNlV)))))
  tNx))
def t_is_least_time (S_is_within S_is_sized S_check_hands S_is_plan_for S_end_of S_raw_least_time : FSpec) : PTS :=
  (tSq (tEx (tFn S_check_hands (tCnV (tVr 0) (tCnV (tVr 1) (tCnV (tVr 2) tNlV)))))
  (tSq (tAs false (tBin ixD (tOf (tFn S_raw_least_time (tCnV (tVr 0) (tCnV (tVr 1) (tCnV (tVr 2) tNlV))))) (tOf (tK (.int 0)))) 4)
  (tSq (tIfc (tOr (tNt (tBo (tFn S_is_sized (tCnV (tVr 3) (tCnV (tK (.int 2)) (tCnV (tK (.int 2)) tNlV)))))) (tNt (tBo (tFn S_is_within (tCnV (tBin ixD (tSl 3) (tOf (tK (.int 0)))) (tCnV (tVr 4) (tCnV (tVr 4) tNlV))))))) (tSq (tRt false (tK (.bool false)))
  tNx) tNx)
  (tSq (tRt false (tAnV (tFn S_is_plan_for (tCnV (tVr 0) (tCnV (tVr 1) (tCnV (tVr 2) (tCnV (tBin ixD (tSl 3) (tOf (tK (.int 1)))) tNlV))))) (tBin eqD (tOf (tFn S_end_of (tCnV (tBin ixD (tSl 3) (tOf (tK (.int 1)))) (tCnV (tVr 1) tNlV)))) (tSl 4))))
  tNx))))
def t__law_draw : PTS :=
  (tSq (tIfc (tAn (tBo (tBin eqD (tOf (tHix 0 (tK (.int 2)))) (tOf (tK (.int 0))))) (tBo (tBin ltD (tOf (tHix 0 (tK (.int 1)))) (tOf (tCl lenD (tCnL (tOf (tHix 0 (tK (.int 0)))) tNlL)))))) (tSq (tAs false (tBin ixD (tOf (tHix 0 (tK (.int 0)))) (tOf (tHix 0 (tK (.int 1))))) 2)
  (tSq (tPut (tBin addD (tOf (tHix 0 (tK (.int 1)))) (tOf (tK (.int 1)))) 0 (tK (.int 1)))
  (tSq (tPut (tBin modD (tOf (tCl intD (tCnL (tOf (tBin addD (tOf (tBin addD (tOf (tBin mulD (tOf (tHix 0 (tK (.int 3)))) (tOf (tK (.int 69621))))) (tOf (tBin mulD (tSl 2) (tOf (tK (.int 48271))))))) (tOf (tK (.int 17))))) tNlL))) (tOf (tK (.int 2147483629)))) 0 (tK (.int 3)))
  (tSq (tIfc (tBo (tBin geD (tSl 2) (tOf (tBin powD (tOf (tK (.int 10))) (tOf (tK (.int 18))))))) (tSq (tPut (tVr 2) 0 (tK (.int 2)))
  tNx) tNx)
  tNx)))) tNx)
  (tSq (tIfc (tBo (tBin gtD (tOf (tHix 0 (tK (.int 2)))) (tOf (tK (.int 0))))) (tSq (tAs false (tBin modD (tOf (tCl intD (tCnL (tOf (tHix 0 (tK (.int 2)))) tNlL))) (tSl 1)) 3)
  (tSq (tPut (tBin divD (tOf (tHix 0 (tK (.int 2)))) (tSl 1)) 0 (tK (.int 2)))
  (tSq (tRt false (tVr 3))
  tNx))) tNx)
  (tSq (tPut (tBin addD (tOf (tHix 0 (tK (.int 4)))) (tOf (tK (.int 1)))) 0 (tK (.int 4)))
  (tSq (tAs false (tBin modD (tOf (tCl intD (tCnL (tOf (tBin mulD (tOf (tCl intD (tCnL (tOf (tBin addD (tOf (tHix 0 (tK (.int 3)))) (tOf (tBin mulD (tOf (tK (.int 7919))) (tOf (tHix 0 (tK (.int 4)))))))) tNlL))) (tOf (tK (.int 40692))))) tNlL))) (tOf (tK (.int 2147483647)))) 4)
  (tSq (tAs false (tBin modD (tOf (tCl intD (tCnL (tOf (tBin mulD (tSl 4) (tOf (tBin addD (tOf (tBin divD (tSl 4) (tOf (tK (.int 1009))))) (tOf (tK (.int 69621))))))) tNlL))) (tOf (tK (.int 2147483647)))) 4)
  (tSq (tAs false (tBin modD (tOf (tCl intD (tCnL (tOf (tBin mulD (tSl 4) (tOf (tBin addD (tOf (tBin divD (tSl 4) (tOf (tK (.int 2003))))) (tOf (tK (.int 40014))))))) tNlL))) (tOf (tK (.int 2147483563)))) 4)
  (tSq (tRt false (tBin modD (tOf (tCl intD (tCnL (tOf (tBin divD (tSl 4) (tOf (tK (.int 16))))) tNlL))) (tSl 1)))
  tNx)))))))
def t__law_any (S__law_draw : FSpec) : PTS :=
  (tSq (tRt false (tBin ixD (tSl 1) (tOf (tFn S__law_draw (tCnH 0 (tCnV (tCl lenD (tCnL (tSl 1) tNlL)) tNlV))))))
  tNx)
def t__law_mixed (S__law_draw : FSpec) : PTS :=
  (tSq (tPr2 true true 2 3 (tMc true (tClF listD (tCnL (tSl 1) tNlL)) (tMc true (tLs tNl) tMn)))
  (tSq (tWh (tBo (tBin gtD (tOf (tCl lenD (tCnL (tSl 2) tNlL))) (tOf (tK (.int 0))))) (tSq (tEx (tApp 3 (tPopAt 2 (tFn S__law_draw (tCnH 0 (tCnV (tCl lenD (tCnL (tSl 2) tNlL)) tNlV))))))
  tNx))
  (tSq (tRtV 3)
  tNx)))
def t__law_same (S__law_same : FSpec) : PTS :=
  (tSq (tIfc (tOr (tBo (tIsa PyData.isTuple (tSl 1))) (tBo (tIsa PyData.isList (tSl 1)))) (tSq (tIfc (tOr (tBo (tBin neD (tOf (tIsa PyData.isTuple (tSl 0))) (tOf (tIsa PyData.isTuple (tSl 1))))) (tBo (tBin neD (tOf (tIsa PyData.isList (tSl 0))) (tOf (tIsa PyData.isList (tSl 1)))))) (tSq (tRt false (tK (.bool false)))
  tNx) tNx)
  (tSq (tRt false (tAnV (tBin eqD (tOf (tCl lenD (tCnL (tSl 0) tNlL))) (tOf (tCl lenD (tCnL (tSl 1) tNlL)))) (tCl allD (tCnL (tOf (tComp (tZp (tCn (tVr 0) (tCn (tVr 1) tNl))) (gTu 2 (gCo (gN 2) (gCo (gN 3) gNi))) tYs (tFn S__law_same (tCnV (tVr 2) (tCnV (tVr 3) tNlV))) [2, 3])) tNlL))))
  tNx)) tNx)
  (tSq (tIfc (tOr (tBo (tBin neD (tOf (tIsa PyData.isBool (tSl 0))) (tOf (tIsa PyData.isBool (tSl 1))))) (tBo (tBin neD (tOf (tBin isD (tSl 0) (tOf (tK .none)))) (tOf (tBin isD (tSl 1) (tOf (tK .none))))))) (tSq (tRt false (tK (.bool false)))
  tNx) tNx)
  (tSq (tRt false (tAnV (tBin eqD (tOf (tIsa PyData.isInt (tSl 0))) (tOf (tIsa PyData.isInt (tSl 1)))) (tBin eqD (tSl 0) (tSl 1))))
  tNx)))
def t__law_is_integer : PTS :=
  (tSq (tRt false (tAnV (tIsa PyData.isInt (tSl 0)) (tNtV (tOf (tIsa PyData.isBool (tSl 0))))))
  tNx)
def t__law_round_free (S__law_draw S__law_any S__law_mixed : FSpec) : PTS :=
  (tSq (tAs false (tBin addD (tOf (tK (.int 1))) (tOf (tFn S__law_draw (tCnH 0 (tCnV (tVr 1) tNlV))))) 2)
  (tSq (tPr2 false true 3 4 (tMc false (tFn S__law_mixed (tCnH 0 (tCnV (tLr (tVr 2)) tNlV))) (tMc true (tBin repL (tOf (tLs (tCn (tTp tNl) tNl))) (tSl 2)) tMn)))
  (tSq (tAs false (tFn S__law_any (tCnH 0 (tCnV (tLs (tCn (tK (.int 2)) (tCn (tK (.int 3)) (tCn (tK (.int 4)) tNl)))) tNlV))) 5)
  (tSq (tFo (tEn (tCn (tVr 3) tNl)) (gTu 2 (gCo (gN 6) (gCo (gN 7) gNi))) (tSq (tPut (tCl tupleD (tCnL (tOf (tClF sortedD (tCnL (tOf (tComp (tWk (tSlc slD (tSl 3) tNoP (tPrt (tVr 6)))) (gN 8) (tBo (tBin eqD (tOf (tFn S__law_draw (tCnH 0 (tCnV (tVr 5) tNlV)))) (tOf (tK (.int 0))))) (tVr 8) [8])) tNlL))) tNlL)) 4 (tVr 7))
  tNx))
  (tSq (tRt false (tCl tupleD (tCnL (tSl 4) tNlL)))
  tNx)))))
def t__law_times (S__law_draw S__law_any : FSpec) : PTS :=
  (tSq (tAs false (tFn S__law_any (tCnH 0 (tCnV (tLs (tCn (tK (.int 2)) (tCn (tK (.int 3)) (tCn (tK (.int 6)) (tCn (tK (.int 101)) tNl))))) tNlV))) 2)
  (tSq (tRt false (tCl tupleD (tCnL (tOf (tComp (tRg1 (tCn (tVr 1) tNl)) (gN 3) tYs (tFn S__law_draw (tCnH 0 (tCnV (tVr 2) tNlV))) [3])) tNlL)))
  tNx))
def t__law_is_plan (S__law_is_integer : FSpec) : PTS :=
  (tSq (tIfc (tOr (tNt (tBo (tIsa PyData.isTuple (tSl 3)))) (tOr (tBo (tBin neD (tOf (tCl lenD (tCnL (tSl 3) tNlL))) (tOf (tCl lenD (tCnL (tSl 0) tNlL))))) (tNt (tBo (tCl allD (tCnL (tOf (tComp (tWkL (tSl 3)) (gN 4) tYs (tAnV (tFn S__law_is_integer (tCnV (tVr 4) tNlV)) (tBin geD (tSl 4) (tOf (tK (.int 0))))) [4])) tNlL)))))) (tSq (tRt false (tK (.bool false)))
  tNx) tNx)
  (tSq (tFo (tEn (tCn (tVr 0) tNl)) (gTu 2 (gCo (gN 4) (gCo (gN 5) gNi))) (tSq (tIfc (tBo (tCl anyD (tCnL (tOf (tComp (tWkL (tSl 5)) (gN 6) tYs (tBin gtD (tOf (tBin addD (tOf (tBin ixD (tSl 3) (tSl 6))) (tOf (tBin ixD (tSl 1) (tSl 6))))) (tOf (tBin ixD (tSl 3) (tSl 4)))) [6])) tNlL))) (tSq (tRt false (tK (.bool false)))
  tNx) tNx)
  tNx))
  (tSq (tFo (tWk (tVr 3)) (gN 7) (tSq (tAs true (tComp (tRg1 (tCn (tCl lenD (tCnL (tSl 0) tNlL)) tNl)) (gN 4) (tBo (tChn leD ltD (tOf (tBin ixD (tSl 3) (tSl 4))) (tSl 7) (tOf (tBin addD (tOf (tBin ixD (tSl 3) (tSl 4))) (tOf (tBin ixD (tSl 1) (tSl 4))))))) (tVr 4) [4]) 8)
  (tSq (tIfc (tBo (tBin gtD (tOf (tCl lenD (tCnL (tSl 8) tNlL))) (tSl 2))) (tSq (tRt false (tK (.bool false)))
  tNx) tNx)
  tNx)))
  (tSq (tRt false (tK (.bool true)))
  tNx))))
def t__law_fits : PTS :=
  (tSq (tFo (tWk (tBin addD (tOf (tLs (tCn (tVr 3) tNl))) (tOf (tComp (tWkN 2) (gN 6) (tBo (tChn ltD ltD (tSl 3) (tOf (tBin ixD (tSl 2) (tSl 6))) (tSl 4))) (tBin ixD (tSl 2) (tSl 6)) [6])))) (gN 5) (tSq (tAs true (tComp (tWkN 2) (gN 6) (tBo (tChn leD ltD (tOf (tBin ixD (tSl 2) (tSl 6))) (tSl 5) (tOf (tBin addD (tOf (tBin ixD (tSl 2) (tSl 6))) (tOf (tBin ixD (tSl 0) (tSl 6))))))) (tVr 6) [6]) 7)
  (tSq (tIfc (tAn (tBo (tBin ltD (tSl 3) (tSl 4))) (tBo (tBin geD (tOf (tCl lenD (tCnL (tSl 7) tNlL))) (tSl 1)))) (tSq (tRt false (tK (.bool false)))
  tNx) tNx)
  tNx)))
  (tSq (tRt false (tK (.bool true)))
  tNx))
def t__law_in_turn (S__law_fits : FSpec) : PTS :=
  (tSq (tAs true (tDn false) 4)
  (tSq (tFo (tWk (tVr 3)) (gN 5) (tSq (tAs false (tCl maxOfD (tCnL (tOf (tBin addD (tOf (tLs (tCn (tK (.int 0)) tNl))) (tOf (tComp (tWk (tBin ixD (tSl 0) (tSl 5))) (gN 7) tYs (tBin addD (tOf (tBin ixD (tSl 4) (tSl 7))) (tOf (tBin ixD (tSl 1) (tSl 7)))) [7])))) tNlL)) 6)
  (tSq (tAs true (tComp (tWkN 4) (gN 7) tYs (tBin addD (tOf (tBin ixD (tSl 4) (tSl 7))) (tOf (tBin ixD (tSl 1) (tSl 7)))) [7]) 8)
  (tSq (tAs false (tClF sortedD (tCnL (tOf (tBin addD (tOf (tLs (tCn (tVr 6) tNl))) (tOf (tComp (tWkL (tSl 8)) (gN 10) (tBo (tBin gtD (tSl 10) (tSl 6))) (tVr 10) [10])))) tNlL)) 9)
  (tSq (tFo (tWk (tVr 9)) (gN 11) (tSq (tIfc (tAn (tBo (tBin notInD (tSl 5) (tSl 4))) (tBo (tFnB S__law_fits (tCnL (tSl 1) (tCnL (tSl 2) (tCnL (tSl 4) (tCnL (tSl 11) (tCnL (tOf (tBin addD (tSl 11) (tOf (tBin ixD (tSl 1) (tSl 5))))) tNlL)))))))) (tSq (tPut (tVr 11) 4 (tVr 5))
  tNx) tNx)
  tNx))
  tNx)))))
  (tSq (tRt false (tCl tupleD (tCnL (tOf (tComp (tRg1 (tCn (tCl lenD (tCnL (tSl 0) tNlL)) tNl)) (gN 5) tYs (tBin ixD (tSl 4) (tSl 5)) [5])) tNlL)))
  tNx)))
def t__law_end : PTS :=
  (tSq (tRt false (tCl maxOfD (tCnL (tOf (tComp (tZp (tCn (tVr 1) (tCn (tVr 0) tNl))) (gTu 2 (gCo (gN 2) (gCo (gN 3) gNi))) tYs (tBin addD (tSl 2) (tSl 3)) [2, 3])) tNlL)))
  tNx)
def t__law_all_orders : PTS :=
  (tSq (tAs false (tLs (tCn (tTp tNl) tNl)) 1)
  (tSq (tFo (tRg1 (tCn (tCl lenD (tCnL (tSl 0) tNlL)) tNl)) (gN 2) (tSq (tAs true (tLs tNl) 3)
  (tSq (tFo (tWk (tVr 1)) (gN 4) (tSq (tFo (tRg1 (tCn (tCl lenD (tCnL (tSl 0) tNlL)) tNl)) (gN 5) (tSq (tIfc (tAn (tBo (tBin notInD (tSl 5) (tSl 4))) (tBo (tCl allD (tCnL (tOf (tComp (tWk (tBin ixD (tSl 0) (tSl 5))) (gN 6) tYs (tBin inD (tSl 6) (tSl 4)) [6])) tNlL)))) (tSq (tEx (tApp 3 (tBin addD (tSl 4) (tOf (tTp (tCn (tVr 5) tNl))))))
  tNx) tNx)
  tNx))
  tNx))
  (tSq (tAs false (tVr 3) 1)
  tNx))))
  (tSq (tRt false (tVr 1))
  tNx)))
def t__law_drawn_order (S__law_any : FSpec) : PTS :=
  (tSq (tAs true (tLs tNl) 2)
  (tSq (tFo (tRg1 (tCn (tCl lenD (tCnL (tSl 1) tNlL)) tNl)) (gN 3) (tSq (tEx (tApp 2 (tFn S__law_any (tCnH 0 (tCnV (tComp (tRg1 (tCn (tCl lenD (tCnL (tSl 1) tNlL)) tNl)) (gN 4) (tAn (tBo (tBin notInD (tSl 4) (tSl 2))) (tBo (tCl allD (tCnL (tOf (tComp (tWk (tBin ixD (tSl 1) (tSl 4))) (gN 5) tYs (tBin inD (tSl 5) (tSl 2)) [5])) tNlL)))) (tVr 4) [4]) tNlV)))))
  tNx))
  (tSq (tRt false (tCl tupleD (tCnL (tSl 2) tNlL)))
  tNx)))
def t__law_bent (S__law_draw S__law_any : FSpec) : PTS :=
  (tSq (tAs false (tFn S__law_draw (tCnH 0 (tCnV (tCl lenD (tCnL (tSl 1) tNlL)) tNlV))) 2)
  (tSq (tAs false (tFn S__law_any (tCnH 0 (tCnV (tLs (tCn (tBin addD (tOf (tBin ixD (tSl 1) (tSl 2))) (tOf (tK (.int 1)))) (tCn (tBin addD (tOf (tBin ixD (tSl 1) (tSl 2))) (tOf (tK (.int 1)))) (tCn (tCl max2D (tCnL (tOf (tK (.int 0))) (tCnL (tOf (tBin subD (tOf (tBin ixD (tSl 1) (tSl 2))) (tOf (tK (.int 1))))) tNlL))) (tCn (tCl max2D (tCnL (tOf (tK (.int 0))) (tCnL (tOf (tBin subD (tOf (tBin ixD (tSl 1) (tSl 2))) (tOf (tK (.int 1))))) tNlL))) (tCn (tK (.int 0)) (tCn (tBin addD (tOf (tBin ixD (tSl 1) (tSl 2))) (tOf (tK (.int 50)))) (tCn (tNg (tK (.int 1))) (tCn (tK (.bool true)) (tCn (tK .none) (tCn (tK (.str "0")) tNl))))))))))) tNlV))) 3)
  (tSq (tAs false (tCl tupleD (tCnL (tOf (tComp (tWkL (tSl 1)) (gN 5) tYs (tBin addD (tSl 5) (tOf (tK (.int 3)))) [5])) tNlL)) 4)
  (tSq (tRt false (tFn S__law_any (tCnH 0 (tCnV (tBin addD (tOf (tBin mulD (tOf (tLs (tCn (tBin addD (tOf (tBin addD (tOf (tSlc slD (tSl 1) tNoP (tPrt (tVr 2)))) (tOf (tTp (tCn (tVr 3) tNl))))) (tOf (tSlc slD (tSl 1) (tPrt (tBin addD (tSl 2) (tOf (tK (.int 1))))) tNoP))) tNl))) (tOf (tK (.int 4))))) (tOf (tLs (tCn (tVr 4) (tCn (tClF listD (tCnL (tSl 1) tNlL)) (tCn (tSlc slD (tSl 1) (tPrt (tK (.int 1))) tNoP) (tCn (tBin addD (tSl 1) (tOf (tTp (tCn (tK (.int 0)) tNl)))) (tCn (tK .none) (tCn (tTp tNl) (tCn (tDn false) (tCn (tBkD (tSl 1)) tNl))))))))))) tNlV))))
  tNx))))
def t__law_are_plans_right (S_is_plan S_in_turn S__law_same S__law_is_plan S__law_in_turn S__law_drawn_order S__law_bent : FSpec) : PTS :=
  (tSq (tAs false (tTp tNl) 4)
  (tSq (tFo (tRg1 (tCn (tK (.int 3)) tNl)) (gN 5) (tSq (tAs false (tFn S__law_drawn_order (tCnH 0 (tCnV (tVr 1) tNlV))) 6)
  (tSq (tAs false (tFn S__law_in_turn (tCnV (tVr 1) (tCnV (tVr 2) (tCnV (tVr 3) (tCnV (tVr 6) tNlV))))) 4)
  (tSq (tIfc (tOr (tNt (tBo (tFn S__law_same (tCnV (tFn S_in_turn (tCnV (tVr 1) (tCnV (tVr 2) (tCnV (tVr 3) (tCnV (tVr 6) tNlV))))) (tCnV (tVr 4) tNlV))))) (tNt (tBo (tFn S__law_is_plan (tCnV (tVr 1) (tCnV (tVr 2) (tCnV (tVr 3) (tCnV (tVr 4) tNlV)))))))) (tSq (tRt false (tK .none))
  tNx) tNx)
  (tSq (tFo (tWk (tBin addD (tOf (tLs (tCn (tVr 4) tNl))) (tOf (tComp (tRg1 (tCn (tK (.int 3)) tNl)) (gN 8) tYs (tFn S__law_bent (tCnH 0 (tCnV (tVr 4) tNlV))) [8])))) (gN 7) (tSq (tPr2 false false 9 10 (tMc false (tCl reprD (tCnL (tSl 7) tNlL)) (tMc false (tFn S__law_is_plan (tCnV (tVr 1) (tCnV (tVr 2) (tCnV (tVr 3) (tCnV (tVr 7) tNlV))))) tMn)))
  (tSq (tIfc (tOr (tNt (tBo (tFn S__law_same (tCnV (tFn S_is_plan (tCnV (tVr 1) (tCnV (tVr 2) (tCnV (tVr 3) (tCnV (tVr 7) tNlV))))) (tCnV (tVr 10) tNlV))))) (tBo (tBin neD (tOf (tCl reprD (tCnL (tSl 7) tNlL))) (tSl 9)))) (tSq (tRt false (tK .none))
  tNx) tNx)
  tNx)))
  tNx)))))
  (tSq (tRt false (tVr 4))
  tNx)))
def t__law_is_least_right (S_ends_of S_least_time S_is_least_time S__law_any S__law_same S__law_is_plan S__law_in_turn S__law_end S__law_all_orders S__law_bent : FSpec) : PTS :=
  (tSq (tAs false (tCl minOfD (tCnL (tOf (tComp (tWk (tFn S__law_all_orders (tCnV (tVr 1) tNlV))) (gN 6) tYs (tFn S__law_end (tCnV (tVr 2) (tCnV (tFn S__law_in_turn (tCnV (tVr 1) (tCnV (tVr 2) (tCnV (tVr 3) (tCnV (tVr 6) tNlV))))) tNlV))) [6])) tNlL)) 5)
  (tSq (tAs false (tFn S_least_time (tCnV (tVr 1) (tCnV (tVr 2) (tCnV (tVr 3) tNlV)))) 7)
  (tSq (tIfc (tOr (tNt (tBo (tIsa PyData.isTuple (tSl 7)))) (tOr (tBo (tBin neD (tOf (tCl lenD (tCnL (tSl 7) tNlL))) (tOf (tK (.int 2))))) (tNt (tBo (tFn S__law_same (tCnV (tBin ixD (tSl 7) (tOf (tK (.int 0)))) (tCnV (tVr 5) tNlV))))))) (tSq (tRt false (tK (.bool false)))
  tNx) tNx)
  (tSq (tIfc (tOr (tNt (tBo (tFn S__law_is_plan (tCnV (tVr 1) (tCnV (tVr 2) (tCnV (tVr 3) (tCnV (tBin ixD (tSl 7) (tOf (tK (.int 1)))) tNlV))))))) (tBo (tBin neD (tOf (tFn S__law_end (tCnV (tVr 2) (tCnV (tBin ixD (tSl 7) (tOf (tK (.int 1)))) tNlV)))) (tSl 5)))) (tSq (tRt false (tK (.bool false)))
  tNx) tNx)
  (tSq (tIfc (tOr (tBo (tBin ltD (tSl 5) (tOf (tCl maxOfD (tCnL (tOf (tFn S_ends_of (tCnV (tVr 1) (tCnV (tVr 2) tNlV)))) tNlL))))) (tOr (tBo (tBin ltD (tOf (tBin mulD (tSl 5) (tSl 3))) (tOf (tCl sumD (tCnL (tSl 2) tNlL))))) (tAn (tBo (tBin ltD (tSl 3) (tOf (tK (.int 4))))) (tBo (tBin gtD (tOf (tBin ixD (tOf (tFn S_least_time (tCnV (tVr 1) (tCnV (tVr 2) (tCnV (tBin addD (tSl 3) (tOf (tK (.int 1)))) tNlV))))) (tOf (tK (.int 0))))) (tSl 5)))))) (tSq (tRt false (tK (.bool false)))
  tNx) tNx)
  (tSq (tIfc (tAn (tBo (tBin leD (tOf (tCl lenD (tCnL (tSl 1) tNlL))) (tSl 3))) (tBo (tBin neD (tSl 5) (tOf (tCl maxOfD (tCnL (tOf (tFn S_ends_of (tCnV (tVr 1) (tCnV (tVr 2) tNlV)))) tNlL)))))) (tSq (tRt false (tK (.bool false)))
  tNx) tNx)
  (tSq (tAs false (tLs (tCn (tVr 7) (tCn (tTp (tCn (tFn S__law_end (tCnV (tVr 2) (tCnV (tVr 4) tNlV))) (tCn (tVr 4) tNl))) (tCn (tTp (tCn (tVr 5) (tCn (tVr 4) tNl))) (tCn (tTp (tCn (tVr 5) (tCn (tFn S__law_bent (tCnH 0 (tCnV (tBin ixD (tSl 7) (tOf (tK (.int 1)))) tNlV))) tNl))) (tCn (tTp (tCn (tBin addD (tSl 5) (tOf (tK (.int 1)))) (tCn (tBin ixD (tSl 7) (tOf (tK (.int 1)))) tNl))) (tCn (tClF listD (tCnL (tSl 7) tNlL)) (tCn (tTp (tCn (tVr 5) tNl)) tNl)))))))) 8)
  (tSq (tAs false (tBin addD (tSl 8) (tOf (tLs (tCn (tTp (tCn (tVr 5) (tCn (tBin ixD (tSl 7) (tOf (tK (.int 1)))) (tCn (tK (.int 0)) tNl)))) (tCn (tBkD (tSl 7)) (tCn (tK .none) (tCn (tTp tNl) (tCn (tDn false) (tCn (tTp (tCn (tVr 5) (tCn (tClF listD (tCnL (tOf (tBin ixD (tSl 7) (tOf (tK (.int 1))))) tNlL)) tNl))) (tCn (tTp (tCn (tCl strD (tCnL (tSl 5) tNlL)) (tCn (tBin ixD (tSl 7) (tOf (tK (.int 1)))) tNl))) (tCn (tTp (tCn (tBin subD (tSl 5) (tOf (tK (.int 1)))) (tCn (tBin ixD (tSl 7) (tOf (tK (.int 1)))) tNl))) tNl))))))))))) 8)
  (tSq (tFo (tWk (tBin addD (tOf (tComp (tRg1 (tCn (tK (.int 6)) tNl)) (gN 10) tYs (tFn S__law_any (tCnH 0 (tCnV (tVr 8) tNlV))) [10])) (tOf (tLs (tCn (tVr 7) tNl))))) (gN 9) (tSq (tAs false (tAnV (tIsa PyData.isTuple (tSl 9)) (tAnV (tBin eqD (tOf (tCl lenD (tCnL (tSl 9) tNlL))) (tOf (tK (.int 2)))) (tFn S__law_same (tCnV (tBin ixD (tSl 9) (tOf (tK (.int 0)))) (tCnV (tVr 5) tNlV))))) 11)
  (tSq (tAs false (tAnV (tVr 11) (tAnV (tFn S__law_is_plan (tCnV (tVr 1) (tCnV (tVr 2) (tCnV (tVr 3) (tCnV (tBin ixD (tSl 9) (tOf (tK (.int 1)))) tNlV))))) (tBin eqD (tOf (tFn S__law_end (tCnV (tVr 2) (tCnV (tBin ixD (tSl 9) (tOf (tK (.int 1)))) tNlV)))) (tSl 5)))) 11)
  (tSq (tIfc (tNt (tBo (tFn S__law_same (tCnV (tFn S_is_least_time (tCnV (tVr 1) (tCnV (tVr 2) (tCnV (tVr 3) (tCnV (tVr 9) tNlV))))) (tCnV (tVr 11) tNlV))))) (tSq (tRt false (tK (.bool false)))
  tNx) tNx)
  tNx))))
  (tSq (tRt false (tK (.bool true)))
  tNx))))))))))
end Lw
end
section
set_option Elab.async false
set_option linter.all false
set_option maxRecDepth 100000
set_option maxHeartbeats 4000000
open PySem PySem.Spec PyProof.Rows L2 PD
namespace Lw
def top (i : Nat) : Stmt := PySem.Challenge.pw_layerhouse_k84_whole_plans_of_hands.main.body.getD i (.Pass ⟨0, 0, 0, 0⟩)
abbrev s_is_integer : Stmt := top 1
abbrev N_is_integer : List Str := ["thing"]
abbrev P_is_integer : List Str := ["thing"]
theorem sc_is_integer : FnScope N_is_integer P_is_integer (defScope s_is_integer) := ⟨rfl, rfl, rfl, by decide +kernel, rfl, by decide +kernel, by decide +kernel⟩
abbrev s_is_within : Stmt := top 2
abbrev N_is_within : List Str := ["thing", "low", "high"]
abbrev P_is_within : List Str := ["thing", "low", "high"]
theorem sc_is_within : FnScope N_is_within P_is_within (defScope s_is_within) := ⟨rfl, rfl, rfl, by decide +kernel, rfl, by decide +kernel, by decide +kernel⟩
abbrev s_is_sized : Stmt := top 3
abbrev N_is_sized : List Str := ["thing", "low", "high"]
abbrev P_is_sized : List Str := ["thing", "low", "high"]
theorem sc_is_sized : FnScope N_is_sized P_is_sized (defScope s_is_sized) := ⟨rfl, rfl, rfl, by decide +kernel, rfl, by decide +kernel, by decide +kernel⟩
abbrev s_are_rising : Stmt := top 4
abbrev N_are_rising : List Str := ["things", "one", "other"]
abbrev P_are_rising : List Str := ["things"]
theorem sc_are_rising : FnScope N_are_rising P_are_rising (defScope s_are_rising) := ⟨rfl, rfl, rfl, by decide +kernel, rfl, by decide +kernel, by decide +kernel⟩
abbrev s_is_lot : Stmt := top 5
abbrev N_is_lot : List Str := ["thing", "many", "one"]
abbrev P_is_lot : List Str := ["thing", "many"]
theorem sc_is_lot : FnScope N_is_lot P_is_lot (defScope s_is_lot) := ⟨rfl, rfl, rfl, by decide +kernel, rfl, by decide +kernel, by decide +kernel⟩
abbrev s_is_order : Stmt := top 6
abbrev N_is_order : List Str := ["thing", "many", "one"]
abbrev P_is_order : List Str := ["thing", "many"]
theorem sc_is_order : FnScope N_is_order P_is_order (defScope s_is_order) := ⟨rfl, rfl, rfl, by decide +kernel, rfl, by decide +kernel, by decide +kernel⟩
abbrev s_all_orders : Stmt := top 7
abbrev N_all_orders : List Str := ["many", "found", "turn", "longer", "row", "one"]
abbrev P_all_orders : List Str := ["many"]
theorem sc_all_orders : FnScope N_all_orders P_all_orders (defScope s_all_orders) := ⟨rfl, rfl, rfl, by decide +kernel, rfl, by decide +kernel, by decide +kernel⟩
abbrev s_are_stages : Stmt := top 19
abbrev N_are_stages : List Str := ["thing", "lot", "number"]
abbrev P_are_stages : List Str := ["thing"]
theorem sc_are_stages : FnScope N_are_stages P_are_stages (defScope s_are_stages) := ⟨rfl, rfl, rfl, by decide +kernel, rfl, by decide +kernel, by decide +kernel⟩
abbrev s_check_stages : Stmt := top 20
abbrev N_check_stages : List Str := ["stages"]
abbrev P_check_stages : List Str := ["stages"]
theorem sc_check_stages : FnScope N_check_stages P_check_stages (defScope s_check_stages) := ⟨rfl, rfl, rfl, by decide +kernel, rfl, by decide +kernel, by decide +kernel⟩
abbrev s_least_order : Stmt := top 21
abbrev N_least_order : List Str := ["stages", "order", "ready", "one", "need"]
abbrev P_least_order : List Str := ["stages"]
theorem sc_least_order : FnScope N_least_order P_least_order (defScope s_least_order) := ⟨rfl, rfl, rfl, by decide +kernel, rfl, by decide +kernel, by decide +kernel⟩
abbrev s_keeps_needs : Stmt := top 22
abbrev N_keeps_needs : List Str := ["stages", "order", "places", "place", "number", "lot", "need"]
abbrev P_keeps_needs : List Str := ["stages", "order"]
theorem sc_keeps_needs : FnScope N_keeps_needs P_keeps_needs (defScope s_keeps_needs) := ⟨rfl, rfl, rfl, by decide +kernel, rfl, by decide +kernel, by decide +kernel⟩
abbrev s_check_ringless : Stmt := top 23
abbrev N_check_ringless : List Str := ["stages", "order"]
abbrev P_check_ringless : List Str := ["stages"]
theorem sc_check_ringless : FnScope N_check_ringless P_check_ringless (defScope s_check_ringless) := ⟨rfl, rfl, rfl, by decide +kernel, rfl, by decide +kernel, by decide +kernel⟩
abbrev s_check_times : Stmt := top 24
abbrev N_check_times : List Str := ["stages", "times", "order", "one"]
abbrev P_check_times : List Str := ["stages", "times"]
theorem sc_check_times : FnScope N_check_times P_check_times (defScope s_check_times) := ⟨rfl, rfl, rfl, by decide +kernel, rfl, by decide +kernel, by decide +kernel⟩
abbrev s_raw_ends : Stmt := top 25
abbrev N_raw_ends : List Str := ["stages", "times", "order", "ends", "number", "need"]
abbrev P_raw_ends : List Str := ["stages", "times", "order"]
theorem sc_raw_ends : FnScope N_raw_ends P_raw_ends (defScope s_raw_ends) := ⟨rfl, rfl, rfl, by decide +kernel, rfl, by decide +kernel, by decide +kernel⟩
abbrev s_ends_of : Stmt := top 26
abbrev N_ends_of : List Str := ["stages", "times", "order"]
abbrev P_ends_of : List Str := ["stages", "times"]
theorem sc_ends_of : FnScope N_ends_of P_ends_of (defScope s_ends_of) := ⟨rfl, rfl, rfl, by decide +kernel, rfl, by decide +kernel, by decide +kernel⟩
abbrev s_check_hands : Stmt := top 30
abbrev N_check_hands : List Str := ["stages", "times", "hands"]
abbrev P_check_hands : List Str := ["stages", "times", "hands"]
theorem sc_check_hands : FnScope N_check_hands P_check_hands (defScope s_check_hands) := ⟨rfl, rfl, rfl, by decide +kernel, rfl, by decide +kernel, by decide +kernel⟩
abbrev s_worked_at : Stmt := top 31
abbrev N_worked_at : List Str := ["plan", "times", "moment", "one"]
abbrev P_worked_at : List Str := ["plan", "times", "moment"]
theorem sc_worked_at : FnScope N_worked_at P_worked_at (defScope s_worked_at) := ⟨rfl, rfl, rfl, by decide +kernel, rfl, by decide +kernel, by decide +kernel⟩
abbrev s_is_let : Stmt := top 32
abbrev N_is_let : List Str := ["plan", "times", "hands", "one"]
abbrev P_is_let : List Str := ["plan", "times", "hands"]
theorem sc_is_let : FnScope N_is_let P_is_let (defScope s_is_let) := ⟨rfl, rfl, rfl, by decide +kernel, rfl, by decide +kernel, by decide +kernel⟩
abbrev s_is_plan_for : Stmt := top 33
abbrev N_is_plan_for : List Str := ["stages", "times", "hands", "thing", "one", "number", "lot", "need"]
abbrev P_is_plan_for : List Str := ["stages", "times", "hands", "thing"]
theorem sc_is_plan_for : FnScope N_is_plan_for P_is_plan_for (defScope s_is_plan_for) := ⟨rfl, rfl, rfl, by decide +kernel, rfl, by decide +kernel, by decide +kernel⟩
abbrev s_is_plan : Stmt := top 34
abbrev N_is_plan : List Str := ["stages", "times", "hands", "thing"]
abbrev P_is_plan : List Str := ["stages", "times", "hands", "thing"]
theorem sc_is_plan : FnScope N_is_plan P_is_plan (defScope s_is_plan) := ⟨rfl, rfl, rfl, by decide +kernel, rfl, by decide +kernel, by decide +kernel⟩
abbrev s_raw_in_turn : Stmt := top 35
abbrev N_raw_in_turn : List Str := ["stages", "times", "hands", "order", "plan", "number", "begin", "need", "moments", "one", "moment", "told"]
abbrev P_raw_in_turn : List Str := ["stages", "times", "hands", "order"]
theorem sc_raw_in_turn : FnScope N_raw_in_turn P_raw_in_turn (defScope s_raw_in_turn) := ⟨rfl, rfl, rfl, by decide +kernel, rfl, by decide +kernel, by decide +kernel⟩
abbrev s_in_turn : Stmt := top 36
abbrev N_in_turn : List Str := ["stages", "times", "hands", "order"]
abbrev P_in_turn : List Str := ["stages", "times", "hands", "order"]
theorem sc_in_turn : FnScope N_in_turn P_in_turn (defScope s_in_turn) := ⟨rfl, rfl, rfl, by decide +kernel, rfl, by decide +kernel, by decide +kernel⟩
abbrev s_end_of : Stmt := top 37
abbrev N_end_of : List Str := ["plan", "times", "begin", "time"]
abbrev P_end_of : List Str := ["plan", "times"]
theorem sc_end_of : FnScope N_end_of P_end_of (defScope s_end_of) := ⟨rfl, rfl, rfl, by decide +kernel, rfl, by decide +kernel, by decide +kernel⟩
abbrev s_raw_least_time : Stmt := top 38
abbrev N_raw_least_time : List Str := ["stages", "times", "hands", "some", "order", "plan"]
abbrev P_raw_least_time : List Str := ["stages", "times", "hands"]
theorem sc_raw_least_time : FnScope N_raw_least_time P_raw_least_time (defScope s_raw_least_time) := ⟨rfl, rfl, rfl, by decide +kernel, rfl, by decide +kernel, by decide +kernel⟩
abbrev s_least_time : Stmt := top 39
abbrev N_least_time : List Str := ["stages", "times", "hands"]
abbrev P_least_time : List Str := ["stages", "times", "hands"]
theorem sc_least_time : FnScope N_least_time P_least_time (defScope s_least_time) := ⟨rfl, rfl, rfl, by decide +kernel, rfl, by decide +kernel, by decide +kernel⟩
abbrev s_is_least_time : Stmt := top 40
abbrev N_is_least_time : List Str := ["stages", "times", "hands", "thing", "due"]
abbrev P_is_least_time : List Str := ["stages", "times", "hands", "thing"]
theorem sc_is_least_time : FnScope N_is_least_time P_is_least_time (defScope s_is_least_time) := ⟨rfl, rfl, rfl, by decide +kernel, rfl, by decide +kernel, by decide +kernel⟩
abbrev s__law_hand : Stmt := top 42
abbrev N__law_hand : List Str := ["script", "cells", "cell"]
abbrev P__law_hand : List Str := ["script"]
theorem sc__law_hand : FnScope N__law_hand P__law_hand (defScope s__law_hand) := ⟨rfl, rfl, rfl, by decide +kernel, rfl, by decide +kernel, by decide +kernel⟩
abbrev s__law_draw : Stmt := top 43
abbrev N__law_draw : List Str := ["hand", "many", "cell", "digit", "number"]
abbrev P__law_draw : List Str := ["hand", "many"]
theorem sc__law_draw : FnScope N__law_draw P__law_draw (defScope s__law_draw) := ⟨rfl, rfl, rfl, by decide +kernel, rfl, by decide +kernel, by decide +kernel⟩
abbrev s__law_any : Stmt := top 44
abbrev N__law_any : List Str := ["hand", "some"]
abbrev P__law_any : List Str := ["hand", "some"]
theorem sc__law_any : FnScope N__law_any P__law_any (defScope s__law_any) := ⟨rfl, rfl, rfl, by decide +kernel, rfl, by decide +kernel, by decide +kernel⟩
abbrev s__law_mixed : Stmt := top 45
abbrev N__law_mixed : List Str := ["hand", "things", "pool", "found"]
abbrev P__law_mixed : List Str := ["hand", "things"]
theorem sc__law_mixed : FnScope N__law_mixed P__law_mixed (defScope s__law_mixed) := ⟨rfl, rfl, rfl, by decide +kernel, rfl, by decide +kernel, by decide +kernel⟩
abbrev s__law_same : Stmt := top 46
abbrev N__law_same : List Str := ["one", "due", "a", "b"]
abbrev P__law_same : List Str := ["one", "due"]
theorem sc__law_same : FnScope N__law_same P__law_same (defScope s__law_same) := ⟨rfl, rfl, rfl, by decide +kernel, rfl, by decide +kernel, by decide +kernel⟩
abbrev s__law_is_integer : Stmt := top 47
abbrev N__law_is_integer : List Str := ["thing"]
abbrev P__law_is_integer : List Str := ["thing"]
theorem sc__law_is_integer : FnScope N__law_is_integer P__law_is_integer (defScope s__law_is_integer) := ⟨rfl, rfl, rfl, by decide +kernel, rfl, by decide +kernel, by decide +kernel⟩
abbrev s__law_round_free : Stmt := top 48
abbrev N__law_round_free : List Str := ["hand", "most", "many", "order", "found", "much", "at", "stage", "one"]
abbrev P__law_round_free : List Str := ["hand", "most"]
theorem sc__law_round_free : FnScope N__law_round_free P__law_round_free (defScope s__law_round_free) := ⟨rfl, rfl, rfl, by decide +kernel, rfl, by decide +kernel, by decide +kernel⟩
abbrev s__law_times : Stmt := top 49
abbrev N__law_times : List Str := ["hand", "many", "wide", "one"]
abbrev P__law_times : List Str := ["hand", "many"]
theorem sc__law_times : FnScope N__law_times P__law_times (defScope s__law_times) := ⟨rfl, rfl, rfl, by decide +kernel, rfl, by decide +kernel, by decide +kernel⟩
abbrev s__law_is_plan : Stmt := top 50
abbrev N__law_is_plan : List Str := ["some", "times", "hands", "thing", "one", "row", "other", "moment", "at_work"]
abbrev P__law_is_plan : List Str := ["some", "times", "hands", "thing"]
theorem sc__law_is_plan : FnScope N__law_is_plan P__law_is_plan (defScope s__law_is_plan) := ⟨rfl, rfl, rfl, by decide +kernel, rfl, by decide +kernel, by decide +kernel⟩
abbrev s__law_fits : Stmt := top 52
abbrev N__law_fits : List Str := ["times", "hands", "begins", "begin", "end", "moment", "other", "at_work"]
abbrev P__law_fits : List Str := ["times", "hands", "begins", "begin", "end"]
theorem sc__law_fits : FnScope N__law_fits P__law_fits (defScope s__law_fits) := ⟨rfl, rfl, rfl, by decide +kernel, rfl, by decide +kernel, by decide +kernel⟩
abbrev s__law_in_turn : Stmt := top 51
abbrev N__law_in_turn : List Str := ["some", "times", "hands", "order", "begins", "one", "least", "other", "ends", "moments", "end", "moment"]
abbrev P__law_in_turn : List Str := ["some", "times", "hands", "order"]
theorem sc__law_in_turn : FnScope N__law_in_turn P__law_in_turn (defScope s__law_in_turn) := ⟨rfl, rfl, rfl, by decide +kernel, rfl, by decide +kernel, by decide +kernel⟩
abbrev s__law_end : Stmt := top 53
abbrev N__law_end : List Str := ["times", "plan", "begin", "time"]
abbrev P__law_end : List Str := ["times", "plan"]
theorem sc__law_end : FnScope N__law_end P__law_end (defScope s__law_end) := ⟨rfl, rfl, rfl, by decide +kernel, rfl, by decide +kernel, by decide +kernel⟩
abbrev s__law_all_orders : Stmt := top 54
abbrev N__law_all_orders : List Str := ["some", "rows", "lap", "longer", "row", "one", "other"]
abbrev P__law_all_orders : List Str := ["some"]
theorem sc__law_all_orders : FnScope N__law_all_orders P__law_all_orders (defScope s__law_all_orders) := ⟨rfl, rfl, rfl, by decide +kernel, rfl, by decide +kernel, by decide +kernel⟩
abbrev s__law_drawn_order : Stmt := top 55
abbrev N__law_drawn_order : List Str := ["hand", "some", "found", "lap", "one", "other"]
abbrev P__law_drawn_order : List Str := ["hand", "some"]
theorem sc__law_drawn_order : FnScope N__law_drawn_order P__law_drawn_order (defScope s__law_drawn_order) := ⟨rfl, rfl, rfl, by decide +kernel, rfl, by decide +kernel, by decide +kernel⟩
abbrev s__law_bent : Stmt := top 56
abbrev N__law_bent : List Str := ["hand", "plan", "at", "new", "later", "begin"]
abbrev P__law_bent : List Str := ["hand", "plan"]
theorem sc__law_bent : FnScope N__law_bent P__law_bent (defScope s__law_bent) := ⟨rfl, rfl, rfl, by decide +kernel, rfl, by decide +kernel, by decide +kernel⟩
abbrev s__law_are_plans_right : Stmt := top 57
abbrev N__law_are_plans_right : List Str := ["hand", "some", "times", "hands", "plan", "lap", "order", "thing", "again", "before", "flag"]
abbrev P__law_are_plans_right : List Str := ["hand", "some", "times", "hands"]
theorem sc__law_are_plans_right : FnScope N__law_are_plans_right P__law_are_plans_right (defScope s__law_are_plans_right) := ⟨rfl, rfl, rfl, by decide +kernel, rfl, by decide +kernel, by decide +kernel⟩
abbrev s__law_is_least_right : Stmt := top 58
abbrev N__law_is_least_right : List Str := ["hand", "some", "times", "hands", "drawn", "least", "order", "heard", "odd", "thing", "lap", "flag"]
abbrev P__law_is_least_right : List Str := ["hand", "some", "times", "hands", "drawn"]
theorem sc__law_is_least_right : FnScope N__law_is_least_right P__law_is_least_right (defScope s__law_is_least_right) := ⟨rfl, rfl, rfl, by decide +kernel, rfl, by decide +kernel, by decide +kernel⟩
abbrev s_law : Stmt := top 59
abbrev N_law : List Str := ["script", "hand", "some", "times", "hands", "lap", "drawn"]
abbrev P_law : List Str := ["script"]
theorem sc_law : FnScope N_law P_law (defScope s_law) := ⟨rfl, rfl, rfl, by decide +kernel, rfl, by decide +kernel, by decide +kernel⟩
structure Txt (K : PySem.W.Frag) (mg : Str → Option Value) where
  f_is_integer : Addr
  d_is_integer : FuncData
  F_is_integer : L2.Fun K "is_integer" "is_integer" s_is_integer f_is_integer d_is_integer
  b_is_integer : Binds K d_is_integer P_is_integer []
  g_is_integer : mg "is_integer" = some (.ref f_is_integer)
  f_is_within : Addr
  d_is_within : FuncData
  F_is_within : L2.Fun K "is_within" "is_within" s_is_within f_is_within d_is_within
  b_is_within : Binds K d_is_within P_is_within []
  g_is_within : mg "is_within" = some (.ref f_is_within)
  f_is_sized : Addr
  d_is_sized : FuncData
  F_is_sized : L2.Fun K "is_sized" "is_sized" s_is_sized f_is_sized d_is_sized
  b_is_sized : Binds K d_is_sized P_is_sized []
  g_is_sized : mg "is_sized" = some (.ref f_is_sized)
  f_are_rising : Addr
  d_are_rising : FuncData
  F_are_rising : L2.Fun K "are_rising" "are_rising" s_are_rising f_are_rising d_are_rising
  b_are_rising : Binds K d_are_rising P_are_rising []
  g_are_rising : mg "are_rising" = some (.ref f_are_rising)
  f_is_lot : Addr
  d_is_lot : FuncData
  F_is_lot : L2.Fun K "is_lot" "is_lot" s_is_lot f_is_lot d_is_lot
  b_is_lot : Binds K d_is_lot P_is_lot []
  g_is_lot : mg "is_lot" = some (.ref f_is_lot)
  f_is_order : Addr
  d_is_order : FuncData
  F_is_order : L2.Fun K "is_order" "is_order" s_is_order f_is_order d_is_order
  b_is_order : Binds K d_is_order P_is_order []
  g_is_order : mg "is_order" = some (.ref f_is_order)
  f_all_orders : Addr
  d_all_orders : FuncData
  F_all_orders : L2.Fun K "all_orders" "all_orders" s_all_orders f_all_orders d_all_orders
  b_all_orders : Binds K d_all_orders P_all_orders []
  g_all_orders : mg "all_orders" = some (.ref f_all_orders)
  f_are_stages : Addr
  d_are_stages : FuncData
  F_are_stages : L2.Fun K "are_stages" "are_stages" s_are_stages f_are_stages d_are_stages
  b_are_stages : Binds K d_are_stages P_are_stages []
  g_are_stages : mg "are_stages" = some (.ref f_are_stages)
  f_check_stages : Addr
  d_check_stages : FuncData
  F_check_stages : L2.Fun K "check_stages" "check_stages" s_check_stages f_check_stages d_check_stages
  b_check_stages : Binds K d_check_stages P_check_stages []
  g_check_stages : mg "check_stages" = some (.ref f_check_stages)
  f_least_order : Addr
  d_least_order : FuncData
  F_least_order : L2.Fun K "least_order" "least_order" s_least_order f_least_order d_least_order
  b_least_order : Binds K d_least_order P_least_order []
  g_least_order : mg "least_order" = some (.ref f_least_order)
  f_keeps_needs : Addr
  d_keeps_needs : FuncData
  F_keeps_needs : L2.Fun K "keeps_needs" "keeps_needs" s_keeps_needs f_keeps_needs d_keeps_needs
  b_keeps_needs : Binds K d_keeps_needs P_keeps_needs []
  g_keeps_needs : mg "keeps_needs" = some (.ref f_keeps_needs)
  f_check_ringless : Addr
  d_check_ringless : FuncData
  F_check_ringless : L2.Fun K "check_ringless" "check_ringless" s_check_ringless f_check_ringless d_check_ringless
  b_check_ringless : Binds K d_check_ringless P_check_ringless []
  g_check_ringless : mg "check_ringless" = some (.ref f_check_ringless)
  f_check_times : Addr
  d_check_times : FuncData
  F_check_times : L2.Fun K "check_times" "check_times" s_check_times f_check_times d_check_times
  b_check_times : Binds K d_check_times P_check_times []
  g_check_times : mg "check_times" = some (.ref f_check_times)
  f_raw_ends : Addr
  d_raw_ends : FuncData
  F_raw_ends : L2.Fun K "raw_ends" "raw_ends" s_raw_ends f_raw_ends d_raw_ends
  b_raw_ends : Binds K d_raw_ends P_raw_ends []
  g_raw_ends : mg "raw_ends" = some (.ref f_raw_ends)
  f_ends_of : Addr
  d_ends_of : FuncData
  F_ends_of : L2.Fun K "ends_of" "ends_of" s_ends_of f_ends_of d_ends_of
  b_ends_of : Binds K d_ends_of P_ends_of []
  g_ends_of : mg "ends_of" = some (.ref f_ends_of)
  f_check_hands : Addr
  d_check_hands : FuncData
  F_check_hands : L2.Fun K "check_hands" "check_hands" s_check_hands f_check_hands d_check_hands
  b_check_hands : Binds K d_check_hands P_check_hands []
  g_check_hands : mg "check_hands" = some (.ref f_check_hands)
  f_worked_at : Addr
  d_worked_at : FuncData
  F_worked_at : L2.Fun K "worked_at" "worked_at" s_worked_at f_worked_at d_worked_at
  b_worked_at : Binds K d_worked_at P_worked_at []
  g_worked_at : mg "worked_at" = some (.ref f_worked_at)
  f_is_let : Addr
  d_is_let : FuncData
  F_is_let : L2.Fun K "is_let" "is_let" s_is_let f_is_let d_is_let
  b_is_let : Binds K d_is_let P_is_let []
  g_is_let : mg "is_let" = some (.ref f_is_let)
  f_is_plan_for : Addr
  d_is_plan_for : FuncData
  F_is_plan_for : L2.Fun K "is_plan_for" "is_plan_for" s_is_plan_for f_is_plan_for d_is_plan_for
  b_is_plan_for : Binds K d_is_plan_for P_is_plan_for []
  g_is_plan_for : mg "is_plan_for" = some (.ref f_is_plan_for)
  f_is_plan : Addr
  d_is_plan : FuncData
  F_is_plan : L2.Fun K "is_plan" "is_plan" s_is_plan f_is_plan d_is_plan
  b_is_plan : Binds K d_is_plan P_is_plan []
  g_is_plan : mg "is_plan" = some (.ref f_is_plan)
  f_raw_in_turn : Addr
  d_raw_in_turn : FuncData
  F_raw_in_turn : L2.Fun K "raw_in_turn" "raw_in_turn" s_raw_in_turn f_raw_in_turn d_raw_in_turn
  b_raw_in_turn : Binds K d_raw_in_turn P_raw_in_turn []
  g_raw_in_turn : mg "raw_in_turn" = some (.ref f_raw_in_turn)
  f_in_turn : Addr
  d_in_turn : FuncData
  F_in_turn : L2.Fun K "in_turn" "in_turn" s_in_turn f_in_turn d_in_turn
  b_in_turn : Binds K d_in_turn P_in_turn []
  g_in_turn : mg "in_turn" = some (.ref f_in_turn)
  f_end_of : Addr
  d_end_of : FuncData
  F_end_of : L2.Fun K "end_of" "end_of" s_end_of f_end_of d_end_of
  b_end_of : Binds K d_end_of P_end_of []
  g_end_of : mg "end_of" = some (.ref f_end_of)
  f_raw_least_time : Addr
  d_raw_least_time : FuncData
  F_raw_least_time : L2.Fun K "raw_least_time" "raw_least_time" s_raw_least_time f_raw_least_time d_raw_least_time
  b_raw_least_time : Binds K d_raw_least_time P_raw_least_time []
  g_raw_least_time : mg "raw_least_time" = some (.ref f_raw_least_time)
  f_least_time : Addr
  d_least_time : FuncData
  F_least_time : L2.Fun K "least_time" "least_time" s_least_time f_least_time d_least_time
  b_least_time : Binds K d_least_time P_least_time []
  g_least_time : mg "least_time" = some (.ref f_least_time)
  f_is_least_time : Addr
  d_is_least_time : FuncData
  F_is_least_time : L2.Fun K "is_least_time" "is_least_time" s_is_least_time f_is_least_time d_is_least_time
  b_is_least_time : Binds K d_is_least_time P_is_least_time []
  g_is_least_time : mg "is_least_time" = some (.ref f_is_least_time)
  f__law_hand : Addr
  d__law_hand : FuncData
  F__law_hand : L2.Fun K "_law_hand" "_law_hand" s__law_hand f__law_hand d__law_hand
  b__law_hand : Binds K d__law_hand P__law_hand []
  g__law_hand : mg "_law_hand" = some (.ref f__law_hand)
  f__law_draw : Addr
  d__law_draw : FuncData
  F__law_draw : L2.Fun K "_law_draw" "_law_draw" s__law_draw f__law_draw d__law_draw
  b__law_draw : Binds K d__law_draw P__law_draw []
  g__law_draw : mg "_law_draw" = some (.ref f__law_draw)
  f__law_any : Addr
  d__law_any : FuncData
  F__law_any : L2.Fun K "_law_any" "_law_any" s__law_any f__law_any d__law_any
  b__law_any : Binds K d__law_any P__law_any []
  g__law_any : mg "_law_any" = some (.ref f__law_any)
  f__law_mixed : Addr
  d__law_mixed : FuncData
  F__law_mixed : L2.Fun K "_law_mixed" "_law_mixed" s__law_mixed f__law_mixed d__law_mixed
  b__law_mixed : Binds K d__law_mixed P__law_mixed []
  g__law_mixed : mg "_law_mixed" = some (.ref f__law_mixed)
  f__law_same : Addr
  d__law_same : FuncData
  F__law_same : L2.Fun K "_law_same" "_law_same" s__law_same f__law_same d__law_same
  b__law_same : Binds K d__law_same P__law_same []
  g__law_same : mg "_law_same" = some (.ref f__law_same)
  f__law_is_integer : Addr
  d__law_is_integer : FuncData
  F__law_is_integer : L2.Fun K "_law_is_integer" "_law_is_integer" s__law_is_integer f__law_is_integer d__law_is_integer
  b__law_is_integer : Binds K d__law_is_integer P__law_is_integer []
  g__law_is_integer : mg "_law_is_integer" = some (.ref f__law_is_integer)
  f__law_round_free : Addr
  d__law_round_free : FuncData
  F__law_round_free : L2.Fun K "_law_round_free" "_law_round_free" s__law_round_free f__law_round_free d__law_round_free
  b__law_round_free : Binds K d__law_round_free P__law_round_free []
  g__law_round_free : mg "_law_round_free" = some (.ref f__law_round_free)
  f__law_times : Addr
  d__law_times : FuncData
  F__law_times : L2.Fun K "_law_times" "_law_times" s__law_times f__law_times d__law_times
  b__law_times : Binds K d__law_times P__law_times []
  g__law_times : mg "_law_times" = some (.ref f__law_times)
  f__law_is_plan : Addr
  d__law_is_plan : FuncData
  F__law_is_plan : L2.Fun K "_law_is_plan" "_law_is_plan" s__law_is_plan f__law_is_plan d__law_is_plan
  b__law_is_plan : Binds K d__law_is_plan P__law_is_plan []
  g__law_is_plan : mg "_law_is_plan" = some (.ref f__law_is_plan)
  f__law_fits : Addr
  d__law_fits : FuncData
  F__law_fits : L2.Fun K "_law_fits" "_law_fits" s__law_fits f__law_fits d__law_fits
  b__law_fits : Binds K d__law_fits P__law_fits []
  g__law_fits : mg "_law_fits" = some (.ref f__law_fits)
  f__law_in_turn : Addr
  d__law_in_turn : FuncData
  F__law_in_turn : L2.Fun K "_law_in_turn" "_law_in_turn" s__law_in_turn f__law_in_turn d__law_in_turn
  b__law_in_turn : Binds K d__law_in_turn P__law_in_turn []
  g__law_in_turn : mg "_law_in_turn" = some (.ref f__law_in_turn)
  f__law_end : Addr
  d__law_end : FuncData
  F__law_end : L2.Fun K "_law_end" "_law_end" s__law_end f__law_end d__law_end
  b__law_end : Binds K d__law_end P__law_end []
  g__law_end : mg "_law_end" = some (.ref f__law_end)
  f__law_all_orders : Addr
  d__law_all_orders : FuncData
  F__law_all_orders : L2.Fun K "_law_all_orders" "_law_all_orders" s__law_all_orders f__law_all_orders d__law_all_orders
  b__law_all_orders : Binds K d__law_all_orders P__law_all_orders []
  g__law_all_orders : mg "_law_all_orders" = some (.ref f__law_all_orders)
  f__law_drawn_order : Addr
  d__law_drawn_order : FuncData
  F__law_drawn_order : L2.Fun K "_law_drawn_order" "_law_drawn_order" s__law_drawn_order f__law_drawn_order d__law_drawn_order
  b__law_drawn_order : Binds K d__law_drawn_order P__law_drawn_order []
  g__law_drawn_order : mg "_law_drawn_order" = some (.ref f__law_drawn_order)
  f__law_bent : Addr
  d__law_bent : FuncData
  F__law_bent : L2.Fun K "_law_bent" "_law_bent" s__law_bent f__law_bent d__law_bent
  b__law_bent : Binds K d__law_bent P__law_bent []
  g__law_bent : mg "_law_bent" = some (.ref f__law_bent)
  f__law_are_plans_right : Addr
  d__law_are_plans_right : FuncData
  F__law_are_plans_right : L2.Fun K "_law_are_plans_right" "_law_are_plans_right" s__law_are_plans_right f__law_are_plans_right d__law_are_plans_right
  b__law_are_plans_right : Binds K d__law_are_plans_right P__law_are_plans_right []
  g__law_are_plans_right : mg "_law_are_plans_right" = some (.ref f__law_are_plans_right)
  f__law_is_least_right : Addr
  d__law_is_least_right : FuncData
  F__law_is_least_right : L2.Fun K "_law_is_least_right" "_law_is_least_right" s__law_is_least_right f__law_is_least_right d__law_is_least_right
  b__law_is_least_right : Binds K d__law_is_least_right P__law_is_least_right []
  g__law_is_least_right : mg "_law_is_least_right" = some (.ref f__law_is_least_right)
  f_law : Addr
  d_law : FuncData
  F_law : L2.Fun K "law" "law" s_law f_law d_law
  b_law : Binds K d_law P_law []
  g_law : mg "law" = some (.ref f_law)
  t_MOST_STAGES : Tok
  c_MOST_STAGES : mg "MOST_STAGES" = some (.int 10 t_MOST_STAGES)
  t_MOST_TIME : Tok
  c_MOST_TIME : mg "MOST_TIME" = some (.int 100 t_MOST_TIME)
  t_MOST_HANDS : Tok
  c_MOST_HANDS : mg "MOST_HANDS" = some (.int 4 t_MOST_HANDS)
  t_MOST_PLANNED : Tok
  c_MOST_PLANNED : mg "MOST_PLANNED" = some (.int 6 t_MOST_PLANNED)
  m_abs : mg "abs" = none
  m_all : mg "all" = none
  m_any : mg "any" = none
  m_bool : mg "bool" = none
  m_dict : mg "dict" = none
  m_enumerate : mg "enumerate" = none
  m_int : mg "int" = none
  m_isinstance : mg "isinstance" = none
  m_len : mg "len" = none
  m_list : mg "list" = none
  m_max : mg "max" = none
  m_min : mg "min" = none
  m_range : mg "range" = none
  m_repr : mg "repr" = none
  m_sorted : mg "sorted" = none
  m_str : mg "str" = none
  m_sum : mg "sum" = none
  m_tuple : mg "tuple" = none
  m_zip : mg "zip" = none
end Lw
end
section
set_option Elab.async false
set_option linter.all false
set_option maxRecDepth 100000
set_option maxHeartbeats 4000000
open PySem PySem.Spec PyProof.Rows L2 PD
namespace Lw
theorem wk_is_integer {P : Program} {w : World} {K : PySem.W.Frag} {mg : Str → Option Value} {base : Heap} (T : Txt K mg) {k : Nat}
  (cdv : Value) (A : Around) (outer : List Env) (s : Shared) (H : Hp) (E : XK) (hr : RoomG k (A.deeper (envOfC "is_integer" (defScope s_is_integer) s.heap.objs.size T.f_is_integer cdv))) :
  DSs (cxOf CX0 P w K mg base N_is_integer "is_integer" (defScope s_is_integer) T.f_is_integer cdv A outer s H E).nox (defBody s_is_integer) t_is_integer := by
  have hu := hu64 hr
  have hu1 := hu1_ hr
  have h : ∃ t, DSs (cxOf CX0 P w K mg base N_is_integer "is_integer" (defScope s_is_integer) T.f_is_integer cdv A outer s H E).nox (defBody s_is_integer) t ∧ t = t_is_integer := by
    refine ⟨_, (dss_cons (ds_ret (DE.x (de_and (de_isa isa_int (dl_var 0) (by rfl) T.m_isinstance bt_isinstance (by rfl) T.m_int bt_int) (de_one (de_not (DE.dl (de_isa isa_bool (dl_var 0) (by rfl) T.m_isinstance bt_isinstance (by rfl) T.m_bool bt_bool)))))))
  dss_nil), ?_⟩
    rfl
  obtain ⟨t, h1, h2⟩ := h
  rw [← h2]
  exact h1
theorem wk_is_within {P : Program} {w : World} {K : PySem.W.Frag} {mg : Str → Option Value} {base : Heap} (T : Txt K mg) {k : Nat}
  {S_is_integer : FSpec} (mono_is_integer : MonoF S_is_integer) (G_is_integer : FnG P w K mg base CX0 k T.f_is_integer T.d_is_integer P_is_integer (spD K false S_is_integer))
  (cdv : Value) (A : Around) (outer : List Env) (s : Shared) (H : Hp) (E : XK) (hr : RoomG k (A.deeper (envOfC "is_within" (defScope s_is_within) s.heap.objs.size T.f_is_within cdv))) :
  DSs (cxOf CX0 P w K mg base N_is_within "is_within" (defScope s_is_within) T.f_is_within cdv A outer s H E).nox (defBody s_is_within) (t_is_within S_is_integer) := by
  have hu := hu64 hr
  have hu1 := hu1_ hr
  have h : ∃ t, DSs (cxOf CX0 P w K mg base N_is_within "is_within" (defScope s_is_within) T.f_is_within cdv A outer s H E).nox (defBody s_is_within) t ∧ t = t_is_within S_is_integer := by
    refine ⟨_, (dss_cons (ds_ret (DE.x (de_and (de_call G_is_integer mono_is_integer hr (by rfl) T.g_is_integer T.F_is_integer.kp T.b_is_integer pass0 (dv_cons (de_var 0) dv_nil)) (de_one (de_chn (op_leP hu) (op_leP hu) (dl_var 1) (dl_var 0) (dl_var 2))))))
  dss_nil), ?_⟩
    rfl
  obtain ⟨t, h1, h2⟩ := h
  rw [← h2]
  exact h1
theorem wk_is_sized {P : Program} {w : World} {K : PySem.W.Frag} {mg : Str → Option Value} {base : Heap} (T : Txt K mg) {k : Nat}
  (cdv : Value) (A : Around) (outer : List Env) (s : Shared) (H : Hp) (E : XK) (hr : RoomG k (A.deeper (envOfC "is_sized" (defScope s_is_sized) s.heap.objs.size T.f_is_sized cdv))) :
  DSs (cxOf CX0 P w K mg base N_is_sized "is_sized" (defScope s_is_sized) T.f_is_sized cdv A outer s H E).nox (defBody s_is_sized) t_is_sized := by
  have hu := hu64 hr
  have hu1 := hu1_ hr
  have h : ∃ t, DSs (cxOf CX0 P w K mg base N_is_sized "is_sized" (defScope s_is_sized) T.f_is_sized cdv A outer s H E).nox (defBody s_is_sized) t ∧ t = t_is_sized := by
    refine ⟨_, (dss_cons (ds_ret (DE.x (de_and (de_isa isa_tuple (dl_var 0) (by rfl) T.m_isinstance bt_isinstance (by rfl) T.m_tuple bt_tuple) (de_one (de_chn (op_leP hu) (op_leP hu) (dl_var 1) (DE.dl (de_callB call_lenP (by rfl) T.m_len bt_len (dls_cons (dl_var 0) dls_nil))) (dl_var 2))))))
  dss_nil), ?_⟩
    rfl
  obtain ⟨t, h1, h2⟩ := h
  rw [← h2]
  exact h1
theorem wk_are_rising {P : Program} {w : World} {K : PySem.W.Frag} {mg : Str → Option Value} {base : Heap} (T : Txt K mg) {k : Nat}
  (cdv : Value) (A : Around) (outer : List Env) (s : Shared) (H : Hp) (E : XK) (hr : RoomG k (A.deeper (envOfC "are_rising" (defScope s_are_rising) s.heap.objs.size T.f_are_rising cdv))) :
  DSs (cxOf CX0 P w K mg base N_are_rising "are_rising" (defScope s_are_rising) T.f_are_rising cdv A outer s H E).nox (defBody s_are_rising) t_are_rising := by
  have hu := hu64 hr
  have hu1 := hu1_ hr
  have h : ∃ t, DSs (cxOf CX0 P w K mg base N_are_rising "are_rising" (defScope s_are_rising) T.f_are_rising cdv A outer s H E).nox (defBody s_are_rising) t ∧ t = t_are_rising := by
    refine ⟨_, (dss_cons (ds_ret (DE.x (de_callB (call_allP rfl) (by rfl) T.m_all bt_all (dls_cons (DE.dl (DF.de (df_lc rfl sc_are_rising.nd (DI.lo (di_zip (by rfl) T.m_zip (da_cons (de_var 0) (da_cons (de_slice (dl_var 0) (do_some de_int) do_none) da_nil)))) (blkOk_by (own := [("one", 1), ("other", 2)]) (N := N_are_rising) (sc := defScope s_are_rising) (by decide +kernel)) (fun _ _ _ _ _ => (dg_tup (n := 2) rfl (dgs_cons (dg_name (i := 1) sc_are_rising.nd rfl (by first | exact .inl rfl | exact .inr rfl) (by first | exact .inl rfl | exact .inr rfl)) (dgs_cons (dg_name (i := 2) sc_are_rising.nd rfl (by first | exact .inl rfl | exact .inr rfl) (by first | exact .inl rfl | exact .inr rfl)) dgs_nil)))) (fun _ _ _ _ _ => dts_nil) (fun _ _ _ _ _ => (de_cmp (op_ltP hu) (dl_var 1) (dl_var 2))) (by decide)))) dls_nil))))
  dss_nil), ?_⟩
    rfl
  obtain ⟨t, h1, h2⟩ := h
  rw [← h2]
  exact h1
theorem wk_is_lot {P : Program} {w : World} {K : PySem.W.Frag} {mg : Str → Option Value} {base : Heap} (T : Txt K mg) {k : Nat}
  {S_is_within : FSpec} (mono_is_within : MonoF S_is_within) (G_is_within : FnG P w K mg base CX0 k T.f_is_within T.d_is_within P_is_within (spD K false S_is_within))
  {S_are_rising : FSpec} (mono_are_rising : MonoF S_are_rising) (G_are_rising : FnG P w K mg base CX0 k T.f_are_rising T.d_are_rising P_are_rising (spD K false S_are_rising))
  (cdv : Value) (A : Around) (outer : List Env) (s : Shared) (H : Hp) (E : XK) (hr : RoomG k (A.deeper (envOfC "is_lot" (defScope s_is_lot) s.heap.objs.size T.f_is_lot cdv))) :
  DSs (cxOf CX0 P w K mg base N_is_lot "is_lot" (defScope s_is_lot) T.f_is_lot cdv A outer s H E).nox (defBody s_is_lot) (t_is_lot S_is_within S_are_rising) := by
  have hu := hu64 hr
  have hu1 := hu1_ hr
  have h : ∃ t, DSs (cxOf CX0 P w K mg base N_is_lot "is_lot" (defScope s_is_lot) T.f_is_lot cdv A outer s H E).nox (defBody s_is_lot) t ∧ t = t_is_lot S_is_within S_are_rising := by
    refine ⟨_, (dss_cons (ds_if (DW.dt (dw_or (dt_not (dt_val (de_isa isa_tuple (dl_var 0) (by rfl) T.m_isinstance bt_isinstance (by rfl) T.m_tuple bt_tuple))) (dw_or1 (dt_not (dt_val (de_callB (call_allP rfl) (by rfl) T.m_all bt_all (dls_cons (DE.dl (DF.de (df_lc rfl sc_is_lot.nd (di_seqL (dl_var 0)) (blkOk_by (own := [("one", 2)]) (N := N_is_lot) (sc := defScope s_is_lot) (by decide +kernel)) (fun _ _ _ _ _ => (dg_name (i := 2) sc_is_lot.nd rfl (by first | exact .inl rfl | exact .inr rfl) (by first | exact .inl rfl | exact .inr rfl))) (fun _ _ _ _ _ => dts_nil) (fun _ _ _ _ _ => (de_call G_is_within mono_is_within hr (by rfl) T.g_is_within T.F_is_within.kp T.b_is_within pass0 (dv_cons (de_var 2) (dv_cons de_int (dv_cons (de_op op_subD (dl_var 1) (DE.dl de_int)) dv_nil))))) (by decide)))) dls_nil))))))) (dss_cons (ds_ret (DE.x de_bl))
  dss_nil) dss_nil)
  (dss_cons (ds_ret (DE.x (de_call G_are_rising mono_are_rising hr (by rfl) T.g_are_rising T.F_are_rising.kp T.b_are_rising pass0 (dv_cons (de_var 0) dv_nil))))
  dss_nil)), ?_⟩
    rfl
  obtain ⟨t, h1, h2⟩ := h
  rw [← h2]
  exact h1
theorem wk_is_order {P : Program} {w : World} {K : PySem.W.Frag} {mg : Str → Option Value} {base : Heap} (T : Txt K mg) {k : Nat}
  {S_is_integer : FSpec} (mono_is_integer : MonoF S_is_integer) (G_is_integer : FnG P w K mg base CX0 k T.f_is_integer T.d_is_integer P_is_integer (spD K false S_is_integer))
  {S_is_sized : FSpec} (mono_is_sized : MonoF S_is_sized) (G_is_sized : FnG P w K mg base CX0 k T.f_is_sized T.d_is_sized P_is_sized (spD K false S_is_sized))
  (cdv : Value) (A : Around) (outer : List Env) (s : Shared) (H : Hp) (E : XK) (hr : RoomG k (A.deeper (envOfC "is_order" (defScope s_is_order) s.heap.objs.size T.f_is_order cdv))) :
  DSs (cxOf CX0 P w K mg base N_is_order "is_order" (defScope s_is_order) T.f_is_order cdv A outer s H E).nox (defBody s_is_order) (t_is_order S_is_integer S_is_sized) := by
  have hu := hu64 hr
  have hu1 := hu1_ hr
  have h : ∃ t, DSs (cxOf CX0 P w K mg base N_is_order "is_order" (defScope s_is_order) T.f_is_order cdv A outer s H E).nox (defBody s_is_order) t ∧ t = t_is_order S_is_integer S_is_sized := by
    refine ⟨_, (dss_cons (ds_if (DW.dt (dw_or (dt_not (dt_val (de_call G_is_sized mono_is_sized hr (by rfl) T.g_is_sized T.F_is_sized.kp T.b_is_sized pass0 (dv_cons (de_var 0) (dv_cons (de_var 1) (dv_cons (de_var 1) dv_nil)))))) (dw_or1 (dt_not (dt_val (de_callB (call_allP rfl) (by rfl) T.m_all bt_all (dls_cons (DE.dl (DF.de (df_lc rfl sc_is_order.nd (di_seqL (dl_var 0)) (blkOk_by (own := [("one", 2)]) (N := N_is_order) (sc := defScope s_is_order) (by decide +kernel)) (fun _ _ _ _ _ => (dg_name (i := 2) sc_is_order.nd rfl (by first | exact .inl rfl | exact .inr rfl) (by first | exact .inl rfl | exact .inr rfl))) (fun _ _ _ _ _ => dts_nil) (fun _ _ _ _ _ => (de_call G_is_integer mono_is_integer hr (by rfl) T.g_is_integer T.F_is_integer.kp T.b_is_integer pass0 (dv_cons (de_var 2) dv_nil))) (by decide)))) dls_nil))))))) (dss_cons (ds_ret (DE.x de_bl))
  dss_nil) dss_nil)
  (dss_cons (ds_ret (DE.x (de_cmp (op_eqP hu) (DE.dl (DF.de (df_callB (call_sortedP hu) (by rfl) T.m_sorted bt_sorted (dls_cons (dl_var 0) dls_nil)))) (DE.dl (DF.de (df_listRg rfl (by rfl) T.m_list (by rfl) T.m_range (de_var 1)))))))
  dss_nil)), ?_⟩
    rfl
  obtain ⟨t, h1, h2⟩ := h
  rw [← h2]
  exact h1
theorem wk_all_orders {P : Program} {w : World} {K : PySem.W.Frag} {mg : Str → Option Value} {base : Heap} (T : Txt K mg) {k : Nat}
  (cdv : Value) (A : Around) (outer : List Env) (s : Shared) (H : Hp) (E : XK) (hr : RoomG k (A.deeper (envOfC "all_orders" (defScope s_all_orders) s.heap.objs.size T.f_all_orders cdv))) :
  DSs (cxOf CX0 P w K mg base N_all_orders "all_orders" (defScope s_all_orders) T.f_all_orders cdv A outer s H E).nox (defBody s_all_orders) t_all_orders := by
  have hu := hu64 hr
  have hu1 := hu1_ hr
  have h : ∃ t, DSs (cxOf CX0 P w K mg base N_all_orders "all_orders" (defScope s_all_orders) T.f_all_orders cdv A outer s H E).nox (defBody s_all_orders) t ∧ t = t_all_orders := by
    refine ⟨_, (dss_cons (ds_set (i := 1) sc_all_orders.nd rfl (DE.x (DF.de (df_lst (da_cons (de_tup da_nil) da_nil)))) (by first | exact .inl rfl | exact .inr rfl))
  (dss_cons (ds_for PassesOwn.never rfl (di_rng1 (by rfl) T.m_range (da_cons (de_var 0) da_nil)) (dg_name (i := 2) sc_all_orders.nd rfl (by first | exact .inl rfl | exact .inr rfl) (by first | exact .inl rfl | exact .inr rfl)) (dss_cons (ds_set (i := 3) sc_all_orders.nd rfl (DF.x (df_lst da_nil)) (by first | exact .inl rfl | exact .inr rfl))
  (dss_cons (ds_for PassesOwn.never rfl (di_seq (de_var 1)) (dg_name (i := 4) sc_all_orders.nd rfl (by first | exact .inl rfl | exact .inr rfl) (by first | exact .inl rfl | exact .inr rfl)) (dss_cons (ds_expr (de_extend (pv 3) (DF.de (df_lc rfl sc_all_orders.nd (DI.lo (di_rng1 (by rfl) T.m_range (da_cons (de_var 0) da_nil))) (blkOk_by (own := [("one", 5)]) (N := N_all_orders) (sc := defScope s_all_orders) (by decide +kernel)) (fun _ _ _ _ _ => (dg_name (i := 5) sc_all_orders.nd rfl (by first | exact .inl rfl | exact .inr rfl) (by first | exact .inl rfl | exact .inr rfl))) (fun _ _ _ _ _ => (dts_one (dt_cmp (op_notInP hu) (dl_var 5) (dl_var 4)))) (fun _ _ _ _ _ => (de_op op_addD (dl_var 4) (DE.dl (de_tup (da_cons (de_var 5) da_nil))))) (by decide)))))
  dss_nil))
  (dss_cons (ds_set (i := 1) sc_all_orders.nd rfl (DE.x (de_var 3)) (by first | exact .inl rfl | exact .inr rfl))
  dss_nil))))
  (dss_cons (ds_ret (DE.x (de_var 1)))
  dss_nil))), ?_⟩
    rfl
  obtain ⟨t, h1, h2⟩ := h
  rw [← h2]
  exact h1
theorem wk_are_stages {P : Program} {w : World} {K : PySem.W.Frag} {mg : Str → Option Value} {base : Heap} (T : Txt K mg) {k : Nat}
  {S_is_sized : FSpec} (mono_is_sized : MonoF S_is_sized) (G_is_sized : FnG P w K mg base CX0 k T.f_is_sized T.d_is_sized P_is_sized (spD K false S_is_sized))
  {S_is_lot : FSpec} (mono_is_lot : MonoF S_is_lot) (G_is_lot : FnG P w K mg base CX0 k T.f_is_lot T.d_is_lot P_is_lot (spD K false S_is_lot))
  (cdv : Value) (A : Around) (outer : List Env) (s : Shared) (H : Hp) (E : XK) (hr : RoomG k (A.deeper (envOfC "are_stages" (defScope s_are_stages) s.heap.objs.size T.f_are_stages cdv))) :
  DSs (cxOf CX0 P w K mg base N_are_stages "are_stages" (defScope s_are_stages) T.f_are_stages cdv A outer s H E).nox (defBody s_are_stages) (t_are_stages S_is_sized S_is_lot) := by
  have hu := hu64 hr
  have hu1 := hu1_ hr
  have h : ∃ t, DSs (cxOf CX0 P w K mg base N_are_stages "are_stages" (defScope s_are_stages) T.f_are_stages cdv A outer s H E).nox (defBody s_are_stages) t ∧ t = t_are_stages S_is_sized S_is_lot := by
    refine ⟨_, (dss_cons (ds_if (DW.dt (dw_or (dt_not (dt_val (de_call G_is_sized mono_is_sized hr (by rfl) T.g_is_sized T.F_is_sized.kp T.b_is_sized pass0 (dv_cons (de_var 0) (dv_cons de_int (dv_cons (de_gint (by rfl) T.c_MOST_STAGES) dv_nil)))))) (dw_or1 (dt_not (dt_val (de_callB (call_allP rfl) (by rfl) T.m_all bt_all (dls_cons (DE.dl (DF.de (df_lc rfl sc_are_stages.nd (di_seqL (dl_var 0)) (blkOk_by (own := [("lot", 1)]) (N := N_are_stages) (sc := defScope s_are_stages) (by decide +kernel)) (fun _ _ _ _ _ => (dg_name (i := 1) sc_are_stages.nd rfl (by first | exact .inl rfl | exact .inr rfl) (by first | exact .inl rfl | exact .inr rfl))) (fun _ _ _ _ _ => dts_nil) (fun _ _ _ _ _ => (de_call G_is_lot mono_is_lot hr (by rfl) T.g_is_lot T.F_is_lot.kp T.b_is_lot pass0 (dv_cons (de_var 1) (dv_cons (de_callB call_lenP (by rfl) T.m_len bt_len (dls_cons (dl_var 0) dls_nil)) dv_nil)))) (by decide)))) dls_nil))))))) (dss_cons (ds_ret (DE.x de_bl))
  dss_nil) dss_nil)
  (dss_cons (ds_ret (DE.x (de_not (DE.dl (de_callB (call_anyP rfl) (by rfl) T.m_any bt_any (dls_cons (DE.dl (DF.de (df_lc rfl sc_are_stages.nd (DI.lo (di_enum (by rfl) T.m_enumerate (da_cons (de_var 0) da_nil))) (blkOk_by (own := [("number", 2), ("lot", 1)]) (N := N_are_stages) (sc := defScope s_are_stages) (by decide +kernel)) (fun _ _ _ _ _ => (dg_tup (n := 2) rfl (dgs_cons (dg_name (i := 2) sc_are_stages.nd rfl (by first | exact .inl rfl | exact .inr rfl) (by first | exact .inl rfl | exact .inr rfl)) (dgs_cons (dg_name (i := 1) sc_are_stages.nd rfl (by first | exact .inl rfl | exact .inr rfl) (by first | exact .inl rfl | exact .inr rfl)) dgs_nil)))) (fun _ _ _ _ _ => dts_nil) (fun _ _ _ _ _ => (de_cmp (op_inP hu) (dl_var 2) (dl_var 1))) (by decide)))) dls_nil))))))
  dss_nil)), ?_⟩
    rfl
  obtain ⟨t, h1, h2⟩ := h
  rw [← h2]
  exact h1
theorem wk_check_stages {P : Program} {w : World} {K : PySem.W.Frag} {mg : Str → Option Value} {base : Heap} (T : Txt K mg) {k : Nat}
  {S_are_stages : FSpec} (mono_are_stages : MonoF S_are_stages) (G_are_stages : FnG P w K mg base CX0 k T.f_are_stages T.d_are_stages P_are_stages (spD K false S_are_stages))
  (cdv : Value) (A : Around) (outer : List Env) (s : Shared) (H : Hp) (E : XK) (hr : RoomG k (A.deeper (envOfC "check_stages" (defScope s_check_stages) s.heap.objs.size T.f_check_stages cdv))) :
  DSs (cxOf CX0 P w K mg base N_check_stages "check_stages" (defScope s_check_stages) T.f_check_stages cdv A outer s H E).nox (defBody s_check_stages) (t_check_stages S_are_stages) := by
  have hu := hu64 hr
  have hu1 := hu1_ hr
  have h : ∃ t, DSs (cxOf CX0 P w K mg base N_check_stages "check_stages" (defScope s_check_stages) T.f_check_stages cdv A outer s H E).nox (defBody s_check_stages) t ∧ t = t_check_stages S_are_stages := by
    refine ⟨_, (dss_cons (ds_if (dt_not (dt_val (de_call G_are_stages mono_are_stages hr (by rfl) T.g_are_stages T.F_are_stages.kp T.b_are_stages pass0 (dv_cons (de_var 0) dv_nil)))) (dss_cons ds_never
  dss_nil) dss_nil)
  dss_nil), ?_⟩
    rfl
  obtain ⟨t, h1, h2⟩ := h
  rw [← h2]
  exact h1
theorem wk_least_order {P : Program} {w : World} {K : PySem.W.Frag} {mg : Str → Option Value} {base : Heap} (T : Txt K mg) {k : Nat}
  (cdv : Value) (A : Around) (outer : List Env) (s : Shared) (H : Hp) (E : XK) (hr : RoomG k (A.deeper (envOfC "least_order" (defScope s_least_order) s.heap.objs.size T.f_least_order cdv))) :
  DSs (cxOf CX0 P w K mg base N_least_order "least_order" (defScope s_least_order) T.f_least_order cdv A outer s H E).nox (defBody s_least_order) t_least_order := by
  have hu := hu64 hr
  have hu1 := hu1_ hr
  have h : ∃ t, DSs (cxOf CX0 P w K mg base N_least_order "least_order" (defScope s_least_order) T.f_least_order cdv A outer s H E).nox (defBody s_least_order) t ∧ t = t_least_order := by
    refine ⟨_, (dss_cons (ds_set (i := 1) sc_least_order.nd rfl (DF.x (df_lst da_nil)) (by first | exact .inl rfl | exact .inr rfl))
  (dss_cons (ds_while PassesOwn.never (dt_cmp (op_ltP hu) (DE.dl (de_callB call_lenP (by rfl) T.m_len bt_len (dls_cons (dl_var 1) dls_nil))) (DE.dl (de_callB call_lenP (by rfl) T.m_len bt_len (dls_cons (dl_var 0) dls_nil)))) (dss_cons (ds_setLc (i := 2) rfl sc_least_order.nd rfl rfl (sw_true rfl rfl rfl (by decide +kernel)) (DI.lo (di_rng1 (by rfl) T.m_range (da_cons (de_callB call_lenP (by rfl) T.m_len bt_len (dls_cons (dl_var 0) dls_nil)) da_nil))) (blkOk_by (own := [("one", 3)]) (N := N_least_order) (sc := defScope s_least_order) (by decide +kernel)) (fun _ _ _ _ _ => (dg_name (i := 3) sc_least_order.nd rfl (by first | exact .inl rfl | exact .inr rfl) (by first | exact .inl rfl | exact .inr rfl))) (fun _ _ _ _ _ => (dts_one (DW.dt (dw_and (dt_cmp (op_notInP hu) (dl_var 3) (dl_var 1)) (dw_and1 (dt_val (de_callB (call_allP rfl) (by rfl) T.m_all bt_all (dls_cons (DE.dl (DF.de (df_lc rfl sc_least_order.nd (DI.lo (di_seq (de_ix hu (dl_var 0) (dl_var 3)))) (blkOk_by (own := [("need", 4)]) (N := N_least_order) (by kernel_rfl)) (fun _ _ _ _ _ => (dg_name (i := 4) sc_least_order.nd rfl (by first | exact .inl rfl | exact .inr rfl) (by first | exact .inl rfl | exact .inr rfl))) (fun _ _ _ _ _ => dts_nil) (fun _ _ _ _ _ => (de_cmp (op_inP hu) (dl_var 4) (dl_var 1))) (by decide)))) dls_nil)))))))) (fun _ _ _ _ _ => (de_var 3)) (by decide))
  (dss_cons (ds_if (dt_cmp (op_eqP hu) (DE.dl (de_callB call_lenP (by rfl) T.m_len bt_len (dls_cons (dl_var 2) dls_nil))) (DE.dl de_int)) (dss_cons (ds_ret (DE.x de_non))
  dss_nil) dss_nil)
  (dss_cons (ds_expr (de_append (pv 1) (de_ix hu (dl_var 2) (DE.dl de_int))))
  dss_nil))))
  (dss_cons (ds_ret (DE.x (de_callTy call_tupleP (by rfl) T.m_tuple bt_tuple (dls_cons (dl_var 1) dls_nil))))
  dss_nil))), ?_⟩
    rfl
  obtain ⟨t, h1, h2⟩ := h
  rw [← h2]
  exact h1
theorem wk_keeps_needs {P : Program} {w : World} {K : PySem.W.Frag} {mg : Str → Option Value} {base : Heap} (T : Txt K mg) {k : Nat}
  (cdv : Value) (A : Around) (outer : List Env) (s : Shared) (H : Hp) (E : XK) (hr : RoomG k (A.deeper (envOfC "keeps_needs" (defScope s_keeps_needs) s.heap.objs.size T.f_keeps_needs cdv))) :
  DSs (cxOf CX0 P w K mg base N_keeps_needs "keeps_needs" (defScope s_keeps_needs) T.f_keeps_needs cdv A outer s H E).nox (defBody s_keeps_needs) t_keeps_needs := by
  have hu := hu64 hr
  have hu1 := hu1_ hr
  have h : ∃ t, DSs (cxOf CX0 P w K mg base N_keeps_needs "keeps_needs" (defScope s_keeps_needs) T.f_keeps_needs cdv A outer s H E).nox (defBody s_keeps_needs) t ∧ t = t_keeps_needs := by
    refine ⟨_, (dss_cons (ds_set (i := 2) sc_keeps_needs.nd rfl (DE.x (DF.de (df_dc rfl sc_keeps_needs.nd (DI.lo (di_enum (by rfl) T.m_enumerate (da_cons (de_var 1) da_nil))) (blkOk_by (own := [("place", 3), ("number", 4)]) (N := N_keeps_needs) (sc := defScope s_keeps_needs) (by decide +kernel)) (fun _ _ _ _ _ => (dg_tup (n := 2) rfl (dgs_cons (dg_name (i := 3) sc_keeps_needs.nd rfl (by first | exact .inl rfl | exact .inr rfl) (by first | exact .inl rfl | exact .inr rfl)) (dgs_cons (dg_name (i := 4) sc_keeps_needs.nd rfl (by first | exact .inl rfl | exact .inr rfl) (by first | exact .inl rfl | exact .inr rfl)) dgs_nil)))) (fun _ _ _ _ _ => dts_nil) (fun _ _ _ _ _ => (de_var 4)) (fun _ _ _ _ _ => (de_var 3)) (by decide)))) (by first | exact .inl rfl | exact .inr rfl))
  (dss_cons (ds_for PassesOwn.never rfl (di_enum (by rfl) T.m_enumerate (da_cons (de_var 0) da_nil)) (dg_tup (n := 2) rfl (dgs_cons (dg_name (i := 4) sc_keeps_needs.nd rfl (by first | exact .inl rfl | exact .inr rfl) (by first | exact .inl rfl | exact .inr rfl)) (dgs_cons (dg_name (i := 5) sc_keeps_needs.nd rfl (by first | exact .inl rfl | exact .inr rfl) (by first | exact .inl rfl | exact .inr rfl)) dgs_nil))) (dss_cons (ds_if (dt_val (de_callB (call_anyP rfl) (by rfl) T.m_any bt_any (dls_cons (DE.dl (DF.de (df_lc rfl sc_keeps_needs.nd (di_seqL (dl_var 5)) (blkOk_by (own := [("need", 6)]) (N := N_keeps_needs) (sc := defScope s_keeps_needs) (by decide +kernel)) (fun _ _ _ _ _ => (dg_name (i := 6) sc_keeps_needs.nd rfl (by first | exact .inl rfl | exact .inr rfl) (by first | exact .inl rfl | exact .inr rfl))) (fun _ _ _ _ _ => dts_nil) (fun _ _ _ _ _ => (de_cmp (op_gtP hu) (DE.dl (de_ix hu (dl_var 2) (dl_var 6))) (DE.dl (de_ix hu (dl_var 2) (dl_var 4))))) (by decide)))) dls_nil))) (dss_cons (ds_ret (DE.x de_bl))
  dss_nil) dss_nil)
  dss_nil))
  (dss_cons (ds_ret (DE.x de_bl))
  dss_nil))), ?_⟩
    rfl
  obtain ⟨t, h1, h2⟩ := h
  rw [← h2]
  exact h1
theorem wk_check_ringless {P : Program} {w : World} {K : PySem.W.Frag} {mg : Str → Option Value} {base : Heap} (T : Txt K mg) {k : Nat}
  {S_check_stages : FSpec} (mono_check_stages : MonoF S_check_stages) (G_check_stages : FnG P w K mg base CX0 k T.f_check_stages T.d_check_stages P_check_stages (spD K false S_check_stages))
  {S_least_order : FSpec} (mono_least_order : MonoF S_least_order) (G_least_order : FnG P w K mg base CX0 k T.f_least_order T.d_least_order P_least_order (spD K false S_least_order))
  (cdv : Value) (A : Around) (outer : List Env) (s : Shared) (H : Hp) (E : XK) (hr : RoomG k (A.deeper (envOfC "check_ringless" (defScope s_check_ringless) s.heap.objs.size T.f_check_ringless cdv))) :
  DSs (cxOf CX0 P w K mg base N_check_ringless "check_ringless" (defScope s_check_ringless) T.f_check_ringless cdv A outer s H E).nox (defBody s_check_ringless) (t_check_ringless S_check_stages S_least_order) := by
  have hu := hu64 hr
  have hu1 := hu1_ hr
  have h : ∃ t, DSs (cxOf CX0 P w K mg base N_check_ringless "check_ringless" (defScope s_check_ringless) T.f_check_ringless cdv A outer s H E).nox (defBody s_check_ringless) t ∧ t = t_check_ringless S_check_stages S_least_order := by
    refine ⟨_, (dss_cons (ds_expr (de_call G_check_stages mono_check_stages hr (by rfl) T.g_check_stages T.F_check_stages.kp T.b_check_stages pass0 (dv_cons (de_var 0) dv_nil)))
  (dss_cons (ds_set (i := 1) sc_check_ringless.nd rfl (DE.x (de_call G_least_order mono_least_order hr (by rfl) T.g_least_order T.F_least_order.kp T.b_least_order pass0 (dv_cons (de_var 0) dv_nil))) (by first | exact .inl rfl | exact .inr rfl))
  (dss_cons (ds_if (dt_cmp op_isP (dl_var 1) (DE.dl de_non)) (dss_cons ds_never
  dss_nil) dss_nil)
  (dss_cons (ds_ret (DE.x (de_var 1)))
  dss_nil)))), ?_⟩
    rfl
  obtain ⟨t, h1, h2⟩ := h
  rw [← h2]
  exact h1
theorem wk_check_times {P : Program} {w : World} {K : PySem.W.Frag} {mg : Str → Option Value} {base : Heap} (T : Txt K mg) {k : Nat}
  {S_is_within : FSpec} (mono_is_within : MonoF S_is_within) (G_is_within : FnG P w K mg base CX0 k T.f_is_within T.d_is_within P_is_within (spD K false S_is_within))
  {S_is_sized : FSpec} (mono_is_sized : MonoF S_is_sized) (G_is_sized : FnG P w K mg base CX0 k T.f_is_sized T.d_is_sized P_is_sized (spD K false S_is_sized))
  {S_check_ringless : FSpec} (mono_check_ringless : MonoF S_check_ringless) (G_check_ringless : FnG P w K mg base CX0 k T.f_check_ringless T.d_check_ringless P_check_ringless (spD K false S_check_ringless))
  (cdv : Value) (A : Around) (outer : List Env) (s : Shared) (H : Hp) (E : XK) (hr : RoomG k (A.deeper (envOfC "check_times" (defScope s_check_times) s.heap.objs.size T.f_check_times cdv))) :
  DSs (cxOf CX0 P w K mg base N_check_times "check_times" (defScope s_check_times) T.f_check_times cdv A outer s H E).nox (defBody s_check_times) (t_check_times S_is_within S_is_sized S_check_ringless) := by
  have hu := hu64 hr
  have hu1 := hu1_ hr
  have h : ∃ t, DSs (cxOf CX0 P w K mg base N_check_times "check_times" (defScope s_check_times) T.f_check_times cdv A outer s H E).nox (defBody s_check_times) t ∧ t = t_check_times S_is_within S_is_sized S_check_ringless := by
    refine ⟨_, (dss_cons (ds_set (i := 2) sc_check_times.nd rfl (DE.x (de_call G_check_ringless mono_check_ringless hr (by rfl) T.g_check_ringless T.F_check_ringless.kp T.b_check_ringless pass0 (dv_cons (de_var 0) dv_nil))) (by first | exact .inl rfl | exact .inr rfl))
  (dss_cons (ds_if (DW.dt (dw_or (dt_not (dt_val (de_call G_is_sized mono_is_sized hr (by rfl) T.g_is_sized T.F_is_sized.kp T.b_is_sized pass0 (dv_cons (de_var 1) (dv_cons (de_callB call_lenP (by rfl) T.m_len bt_len (dls_cons (dl_var 0) dls_nil)) (dv_cons (de_callB call_lenP (by rfl) T.m_len bt_len (dls_cons (dl_var 0) dls_nil)) dv_nil)))))) (dw_or1 (dt_not (dt_val (de_callB (call_allP rfl) (by rfl) T.m_all bt_all (dls_cons (DE.dl (DF.de (df_lc rfl sc_check_times.nd (di_seqL (dl_var 1)) (blkOk_by (own := [("one", 3)]) (N := N_check_times) (sc := defScope s_check_times) (by decide +kernel)) (fun _ _ _ _ _ => (dg_name (i := 3) sc_check_times.nd rfl (by first | exact .inl rfl | exact .inr rfl) (by first | exact .inl rfl | exact .inr rfl))) (fun _ _ _ _ _ => dts_nil) (fun _ _ _ _ _ => (de_call G_is_within mono_is_within hr (by rfl) T.g_is_within T.F_is_within.kp T.b_is_within pass0 (dv_cons (de_var 3) (dv_cons de_int (dv_cons (de_gint (by rfl) T.c_MOST_TIME) dv_nil))))) (by decide)))) dls_nil))))))) (dss_cons ds_never
  dss_nil) dss_nil)
  (dss_cons (ds_ret (DE.x (de_var 2)))
  dss_nil))), ?_⟩
    rfl
  obtain ⟨t, h1, h2⟩ := h
  rw [← h2]
  exact h1
theorem wk_raw_ends {P : Program} {w : World} {K : PySem.W.Frag} {mg : Str → Option Value} {base : Heap} (T : Txt K mg) {k : Nat}
  (cdv : Value) (A : Around) (outer : List Env) (s : Shared) (H : Hp) (E : XK) (hr : RoomG k (A.deeper (envOfC "raw_ends" (defScope s_raw_ends) s.heap.objs.size T.f_raw_ends cdv))) :
  DSs (cxOf CX0 P w K mg base N_raw_ends "raw_ends" (defScope s_raw_ends) T.f_raw_ends cdv A outer s H E).nox (defBody s_raw_ends) t_raw_ends := by
  have hu := hu64 hr
  have hu1 := hu1_ hr
  have h : ∃ t, DSs (cxOf CX0 P w K mg base N_raw_ends "raw_ends" (defScope s_raw_ends) T.f_raw_ends cdv A outer s H E).nox (defBody s_raw_ends) t ∧ t = t_raw_ends := by
    refine ⟨_, (dss_cons (ds_set (i := 3) sc_raw_ends.nd rfl (DF.x (df_op op_repF (DE.dl (DF.de (df_lst (da_cons de_int da_nil)))) (DE.dl (de_callB call_lenP (by rfl) T.m_len bt_len (dls_cons (dl_var 0) dls_nil))))) (by first | exact .inl rfl | exact .inr rfl))
  (dss_cons (ds_for PassesOwn.never rfl (di_seq (de_var 2)) (dg_name (i := 4) sc_raw_ends.nd rfl (by first | exact .inl rfl | exact .inr rfl) (by first | exact .inl rfl | exact .inr rfl)) (dss_cons (ds_put hu1 (de_op op_addD (DE.dl (de_ix hu (dl_var 1) (dl_var 4))) (DE.dl (de_callB (call_maxP rfl hu) (by rfl) T.m_max bt_max (dls_cons (DE.dl (de_op op_addD (DE.dl (DF.de (df_lst (da_cons de_int da_nil)))) (DE.dl (DF.de (df_lc rfl sc_raw_ends.nd (DI.lo (di_seq (de_ix hu (dl_var 0) (dl_var 4)))) (blkOk_by (own := [("need", 5)]) (N := N_raw_ends) (sc := defScope s_raw_ends) (by decide +kernel)) (fun _ _ _ _ _ => (dg_name (i := 5) sc_raw_ends.nd rfl (by first | exact .inl rfl | exact .inr rfl) (by first | exact .inl rfl | exact .inr rfl))) (fun _ _ _ _ _ => dts_nil) (fun _ _ _ _ _ => (de_ix hu (dl_var 3) (dl_var 5))) (by decide)))))) dls_nil)))) (pv 3) (de_var 4))
  dss_nil))
  (dss_cons (ds_retV (pv 3))
  dss_nil))), ?_⟩
    rfl
  obtain ⟨t, h1, h2⟩ := h
  rw [← h2]
  exact h1
theorem wk_ends_of {P : Program} {w : World} {K : PySem.W.Frag} {mg : Str → Option Value} {base : Heap} (T : Txt K mg) {k : Nat}
  {S_check_times : FSpec} (mono_check_times : MonoF S_check_times) (G_check_times : FnG P w K mg base CX0 k T.f_check_times T.d_check_times P_check_times (spD K false S_check_times))
  {S_raw_ends : FSpec} (mono_raw_ends : MonoF S_raw_ends) (G_raw_ends : FnG P w K mg base CX0 k T.f_raw_ends T.d_raw_ends P_raw_ends (spD K false S_raw_ends))
  (cdv : Value) (A : Around) (outer : List Env) (s : Shared) (H : Hp) (E : XK) (hr : RoomG k (A.deeper (envOfC "ends_of" (defScope s_ends_of) s.heap.objs.size T.f_ends_of cdv))) :
  DSs (cxOf CX0 P w K mg base N_ends_of "ends_of" (defScope s_ends_of) T.f_ends_of cdv A outer s H E).nox (defBody s_ends_of) (t_ends_of S_check_times S_raw_ends) := by
  have hu := hu64 hr
  have hu1 := hu1_ hr
  have h : ∃ t, DSs (cxOf CX0 P w K mg base N_ends_of "ends_of" (defScope s_ends_of) T.f_ends_of cdv A outer s H E).nox (defBody s_ends_of) t ∧ t = t_ends_of S_check_times S_raw_ends := by
    refine ⟨_, (dss_cons (ds_set (i := 2) sc_ends_of.nd rfl (DE.x (de_call G_check_times mono_check_times hr (by rfl) T.g_check_times T.F_check_times.kp T.b_check_times pass0 (dv_cons (de_var 0) (dv_cons (de_var 1) dv_nil)))) (by first | exact .inl rfl | exact .inr rfl))
  (dss_cons (ds_ret (DE.x (de_callTy call_tupleP (by rfl) T.m_tuple bt_tuple (dls_cons (DE.dl (de_call G_raw_ends mono_raw_ends hr (by rfl) T.g_raw_ends T.F_raw_ends.kp T.b_raw_ends pass0 (dv_cons (de_var 0) (dv_cons (de_var 1) (dv_cons (de_var 2) dv_nil))))) dls_nil))))
  dss_nil)), ?_⟩
    rfl
  obtain ⟨t, h1, h2⟩ := h
  rw [← h2]
  exact h1
theorem wk_check_hands {P : Program} {w : World} {K : PySem.W.Frag} {mg : Str → Option Value} {base : Heap} (T : Txt K mg) {k : Nat}
  {S_is_within : FSpec} (mono_is_within : MonoF S_is_within) (G_is_within : FnG P w K mg base CX0 k T.f_is_within T.d_is_within P_is_within (spD K false S_is_within))
  {S_check_times : FSpec} (mono_check_times : MonoF S_check_times) (G_check_times : FnG P w K mg base CX0 k T.f_check_times T.d_check_times P_check_times (spD K false S_check_times))
  (cdv : Value) (A : Around) (outer : List Env) (s : Shared) (H : Hp) (E : XK) (hr : RoomG k (A.deeper (envOfC "check_hands" (defScope s_check_hands) s.heap.objs.size T.f_check_hands cdv))) :
  DSs (cxOf CX0 P w K mg base N_check_hands "check_hands" (defScope s_check_hands) T.f_check_hands cdv A outer s H E).nox (defBody s_check_hands) (t_check_hands S_is_within S_check_times) := by
  have hu := hu64 hr
  have hu1 := hu1_ hr
  have h : ∃ t, DSs (cxOf CX0 P w K mg base N_check_hands "check_hands" (defScope s_check_hands) T.f_check_hands cdv A outer s H E).nox (defBody s_check_hands) t ∧ t = t_check_hands S_is_within S_check_times := by
    refine ⟨_, (dss_cons (ds_expr (de_call G_check_times mono_check_times hr (by rfl) T.g_check_times T.F_check_times.kp T.b_check_times pass0 (dv_cons (de_var 0) (dv_cons (de_var 1) dv_nil))))
  (dss_cons (ds_if (dt_not (dt_val (de_call G_is_within mono_is_within hr (by rfl) T.g_is_within T.F_is_within.kp T.b_is_within pass0 (dv_cons (de_var 2) (dv_cons de_int (dv_cons (de_gint (by rfl) T.c_MOST_HANDS) dv_nil)))))) (dss_cons ds_never
  dss_nil) dss_nil)
  dss_nil)), ?_⟩
    rfl
  obtain ⟨t, h1, h2⟩ := h
  rw [← h2]
  exact h1
theorem wk_worked_at {P : Program} {w : World} {K : PySem.W.Frag} {mg : Str → Option Value} {base : Heap} (T : Txt K mg) {k : Nat}
  (cdv : Value) (A : Around) (outer : List Env) (s : Shared) (H : Hp) (E : XK) (hr : RoomG k (A.deeper (envOfC "worked_at" (defScope s_worked_at) s.heap.objs.size T.f_worked_at cdv))) :
  DSs (cxOf CX0 P w K mg base N_worked_at "worked_at" (defScope s_worked_at) T.f_worked_at cdv A outer s H E).nox (defBody s_worked_at) t_worked_at := by
  have hu := hu64 hr
  have hu1 := hu1_ hr
  have h : ∃ t, DSs (cxOf CX0 P w K mg base N_worked_at "worked_at" (defScope s_worked_at) T.f_worked_at cdv A outer s H E).nox (defBody s_worked_at) t ∧ t = t_worked_at := by
    refine ⟨_, (dss_cons (ds_ret (DE.x (de_callB call_lenP (by rfl) T.m_len bt_len (dls_cons (DE.dl (DF.de (df_lcN rfl sc_worked_at.nd (pv 0) (blkOk_by (own := [("one", 3)]) (N := N_worked_at) (sc := defScope s_worked_at) (by decide +kernel)) (fun _ _ _ _ _ => (dg_name (i := 3) sc_worked_at.nd rfl (by first | exact .inl rfl | exact .inr rfl) (by first | exact .inl rfl | exact .inr rfl))) (fun _ _ _ _ _ => (dts_one (dt_chn (op_leP hu) (op_ltP hu) (DE.dl (de_ix hu (dl_var 0) (dl_var 3))) (dl_var 2) (DE.dl (de_op op_addD (DE.dl (de_ix hu (dl_var 0) (dl_var 3))) (DE.dl (de_ix hu (dl_var 1) (dl_var 3)))))))) (fun _ _ _ _ _ => (de_var 3)) (by decide)))) dls_nil))))
  dss_nil), ?_⟩
    rfl
  obtain ⟨t, h1, h2⟩ := h
  rw [← h2]
  exact h1
theorem wk_is_let {P : Program} {w : World} {K : PySem.W.Frag} {mg : Str → Option Value} {base : Heap} (T : Txt K mg) {k : Nat}
  {S_worked_at : FSpec} (mono_worked_at : MonoF S_worked_at) (G_worked_at : FnG P w K mg base CX0 k T.f_worked_at T.d_worked_at P_worked_at (spD K false S_worked_at))
  (cdv : Value) (A : Around) (outer : List Env) (s : Shared) (H : Hp) (E : XK) (hr : RoomG k (A.deeper (envOfC "is_let" (defScope s_is_let) s.heap.objs.size T.f_is_let cdv))) :
  DSs (cxOf CX0 P w K mg base N_is_let "is_let" (defScope s_is_let) T.f_is_let cdv A outer s H E).nox (defBody s_is_let) (t_is_let S_worked_at) := by
  have hu := hu64 hr
  have hu1 := hu1_ hr
  have h : ∃ t, DSs (cxOf CX0 P w K mg base N_is_let "is_let" (defScope s_is_let) T.f_is_let cdv A outer s H E).nox (defBody s_is_let) t ∧ t = t_is_let S_worked_at := by
    refine ⟨_, (dss_cons (ds_ret (DE.x (de_callB (call_allP rfl) (by rfl) T.m_all bt_all (dls_cons (DE.dl (DF.de (df_lcN rfl sc_is_let.nd (pv 0) (blkOk_by (own := [("one", 3)]) (N := N_is_let) (sc := defScope s_is_let) (by decide +kernel)) (fun _ _ _ _ _ => (dg_name (i := 3) sc_is_let.nd rfl (by first | exact .inl rfl | exact .inr rfl) (by first | exact .inl rfl | exact .inr rfl))) (fun _ _ _ _ _ => dts_nil) (fun _ _ _ _ _ => (de_cmp (op_leP hu) (DE.dl (de_call G_worked_at mono_worked_at hr (by rfl) T.g_worked_at T.F_worked_at.kp T.b_worked_at pass0 (dv_cons (de_var 0) (dv_cons (de_var 1) (dv_cons (de_ix hu (dl_var 0) (dl_var 3)) dv_nil))))) (dl_var 2))) (by decide)))) dls_nil))))
  dss_nil), ?_⟩
    rfl
  obtain ⟨t, h1, h2⟩ := h
  rw [← h2]
  exact h1
theorem wk_is_plan_for {P : Program} {w : World} {K : PySem.W.Frag} {mg : Str → Option Value} {base : Heap} (T : Txt K mg) {k : Nat}
  {S_is_within : FSpec} (mono_is_within : MonoF S_is_within) (G_is_within : FnG P w K mg base CX0 k T.f_is_within T.d_is_within P_is_within (spD K false S_is_within))
  {S_is_sized : FSpec} (mono_is_sized : MonoF S_is_sized) (G_is_sized : FnG P w K mg base CX0 k T.f_is_sized T.d_is_sized P_is_sized (spD K false S_is_sized))
  {S_is_let : FSpec} (mono_is_let : MonoF S_is_let) (G_is_let : FnG P w K mg base CX0 k T.f_is_let T.d_is_let P_is_let (spD K false S_is_let))
  (cdv : Value) (A : Around) (outer : List Env) (s : Shared) (H : Hp) (E : XK) (hr : RoomG k (A.deeper (envOfC "is_plan_for" (defScope s_is_plan_for) s.heap.objs.size T.f_is_plan_for cdv))) :
  DSs (cxOf CX0 P w K mg base N_is_plan_for "is_plan_for" (defScope s_is_plan_for) T.f_is_plan_for cdv A outer s H E).nox (defBody s_is_plan_for) (t_is_plan_for S_is_within S_is_sized S_is_let) := by
  have hu := hu64 hr
  have hu1 := hu1_ hr
  have h : ∃ t, DSs (cxOf CX0 P w K mg base N_is_plan_for "is_plan_for" (defScope s_is_plan_for) T.f_is_plan_for cdv A outer s H E).nox (defBody s_is_plan_for) t ∧ t = t_is_plan_for S_is_within S_is_sized S_is_let := by
    refine ⟨_, (dss_cons (ds_if (DW.dt (dw_or (dt_not (dt_val (de_call G_is_sized mono_is_sized hr (by rfl) T.g_is_sized T.F_is_sized.kp T.b_is_sized pass0 (dv_cons (de_var 3) (dv_cons (de_callB call_lenP (by rfl) T.m_len bt_len (dls_cons (dl_var 0) dls_nil)) (dv_cons (de_callB call_lenP (by rfl) T.m_len bt_len (dls_cons (dl_var 0) dls_nil)) dv_nil)))))) (dw_or1 (dt_not (dt_val (de_callB (call_allP rfl) (by rfl) T.m_all bt_all (dls_cons (DE.dl (DF.de (df_lc rfl sc_is_plan_for.nd (di_seqL (dl_var 3)) (blkOk_by (own := [("one", 4)]) (N := N_is_plan_for) (sc := defScope s_is_plan_for) (by decide +kernel)) (fun _ _ _ _ _ => (dg_name (i := 4) sc_is_plan_for.nd rfl (by first | exact .inl rfl | exact .inr rfl) (by first | exact .inl rfl | exact .inr rfl))) (fun _ _ _ _ _ => dts_nil) (fun _ _ _ _ _ => (de_call G_is_within mono_is_within hr (by rfl) T.g_is_within T.F_is_within.kp T.b_is_within pass0 (dv_cons (de_var 4) (dv_cons de_int (dv_cons (de_op op_subD (DE.dl (de_op op_powD (DE.dl de_int) (DE.dl de_int))) (DE.dl de_int)) dv_nil))))) (by decide)))) dls_nil))))))) (dss_cons (ds_ret (DE.x de_bl))
  dss_nil) dss_nil)
  (dss_cons (ds_for PassesOwn.never rfl (di_enum (by rfl) T.m_enumerate (da_cons (de_var 0) da_nil)) (dg_tup (n := 2) rfl (dgs_cons (dg_name (i := 5) sc_is_plan_for.nd rfl (by first | exact .inl rfl | exact .inr rfl) (by first | exact .inl rfl | exact .inr rfl)) (dgs_cons (dg_name (i := 6) sc_is_plan_for.nd rfl (by first | exact .inl rfl | exact .inr rfl) (by first | exact .inl rfl | exact .inr rfl)) dgs_nil))) (dss_cons (ds_if (dt_val (de_callB (call_anyP rfl) (by rfl) T.m_any bt_any (dls_cons (DE.dl (DF.de (df_lc rfl sc_is_plan_for.nd (di_seqL (dl_var 6)) (blkOk_by (own := [("need", 7)]) (N := N_is_plan_for) (sc := defScope s_is_plan_for) (by decide +kernel)) (fun _ _ _ _ _ => (dg_name (i := 7) sc_is_plan_for.nd rfl (by first | exact .inl rfl | exact .inr rfl) (by first | exact .inl rfl | exact .inr rfl))) (fun _ _ _ _ _ => dts_nil) (fun _ _ _ _ _ => (de_cmp (op_gtP hu) (DE.dl (de_op op_addD (DE.dl (de_ix hu (dl_var 3) (dl_var 7))) (DE.dl (de_ix hu (dl_var 1) (dl_var 7))))) (DE.dl (de_ix hu (dl_var 3) (dl_var 5))))) (by decide)))) dls_nil))) (dss_cons (ds_ret (DE.x de_bl))
  dss_nil) dss_nil)
  dss_nil))
  (dss_cons (ds_ret (DE.x (de_call G_is_let mono_is_let hr (by rfl) T.g_is_let T.F_is_let.kp T.b_is_let pass0 (dv_cons (DF.de (df_dictEn rfl (by rfl) T.m_dict (by rfl) T.m_enumerate (de_var 3))) (dv_cons (de_var 1) (dv_cons (de_var 2) dv_nil))))))
  dss_nil))), ?_⟩
    rfl
  obtain ⟨t, h1, h2⟩ := h
  rw [← h2]
  exact h1
theorem wk_is_plan {P : Program} {w : World} {K : PySem.W.Frag} {mg : Str → Option Value} {base : Heap} (T : Txt K mg) {k : Nat}
  {S_check_hands : FSpec} (mono_check_hands : MonoF S_check_hands) (G_check_hands : FnG P w K mg base CX0 k T.f_check_hands T.d_check_hands P_check_hands (spD K false S_check_hands))
  {S_is_plan_for : FSpec} (mono_is_plan_for : MonoF S_is_plan_for) (G_is_plan_for : FnG P w K mg base CX0 k T.f_is_plan_for T.d_is_plan_for P_is_plan_for (spD K false S_is_plan_for))
  (cdv : Value) (A : Around) (outer : List Env) (s : Shared) (H : Hp) (E : XK) (hr : RoomG k (A.deeper (envOfC "is_plan" (defScope s_is_plan) s.heap.objs.size T.f_is_plan cdv))) :
  DSs (cxOf CX0 P w K mg base N_is_plan "is_plan" (defScope s_is_plan) T.f_is_plan cdv A outer s H E).nox (defBody s_is_plan) (t_is_plan S_check_hands S_is_plan_for) := by
  have hu := hu64 hr
  have hu1 := hu1_ hr
  have h : ∃ t, DSs (cxOf CX0 P w K mg base N_is_plan "is_plan" (defScope s_is_plan) T.f_is_plan cdv A outer s H E).nox (defBody s_is_plan) t ∧ t = t_is_plan S_check_hands S_is_plan_for := by
    refine ⟨_, (dss_cons (ds_expr (de_call G_check_hands mono_check_hands hr (by rfl) T.g_check_hands T.F_check_hands.kp T.b_check_hands pass0 (dv_cons (de_var 0) (dv_cons (de_var 1) (dv_cons (de_var 2) dv_nil)))))
  (dss_cons (ds_ret (DE.x (de_call G_is_plan_for mono_is_plan_for hr (by rfl) T.g_is_plan_for T.F_is_plan_for.kp T.b_is_plan_for pass0 (dv_cons (de_var 0) (dv_cons (de_var 1) (dv_cons (de_var 2) (dv_cons (de_var 3) dv_nil)))))))
  dss_nil)), ?_⟩
    rfl
  obtain ⟨t, h1, h2⟩ := h
  rw [← h2]
  exact h1
theorem wk_raw_in_turn {P : Program} {w : World} {K : PySem.W.Frag} {mg : Str → Option Value} {base : Heap} (T : Txt K mg) {k : Nat}
  {S_is_let : FSpec} (mono_is_let : MonoF S_is_let) (G_is_let : FnG P w K mg base CX0 k T.f_is_let T.d_is_let P_is_let (spD K false S_is_let))
  (cdv : Value) (A : Around) (outer : List Env) (s : Shared) (H : Hp) (E : XK) (hr : RoomG k (A.deeper (envOfC "raw_in_turn" (defScope s_raw_in_turn) s.heap.objs.size T.f_raw_in_turn cdv))) :
  DSs (cxOf CX0 P w K mg base N_raw_in_turn "raw_in_turn" (defScope s_raw_in_turn) T.f_raw_in_turn cdv A outer s H E).nox (defBody s_raw_in_turn) (t_raw_in_turn S_is_let) := by
  have hu := hu64 hr
  have hu1 := hu1_ hr
  have h : ∃ t, DSs (cxOf CX0 P w K mg base N_raw_in_turn "raw_in_turn" (defScope s_raw_in_turn) T.f_raw_in_turn cdv A outer s H E).nox (defBody s_raw_in_turn) t ∧ t = t_raw_in_turn S_is_let := by
    refine ⟨_, (dss_cons (ds_set (i := 4) sc_raw_in_turn.nd rfl (DE.x (DF.de df_dicK)) (by first | exact .inl rfl | exact .inr rfl))
  (dss_cons (ds_for PassesOwn.never rfl (di_seq (de_var 3)) (dg_name (i := 5) sc_raw_in_turn.nd rfl (by first | exact .inl rfl | exact .inr rfl) (by first | exact .inl rfl | exact .inr rfl)) (dss_cons (ds_set (i := 6) sc_raw_in_turn.nd rfl (DE.x (de_callB (call_maxP rfl hu) (by rfl) T.m_max bt_max (dls_cons (DE.dl (de_op op_addD (DE.dl (DF.de (df_lst (da_cons de_int da_nil)))) (DE.dl (DF.de (df_lc rfl sc_raw_in_turn.nd (DI.lo (di_seq (de_ix hu (dl_var 0) (dl_var 5)))) (blkOk_by (own := [("need", 7)]) (N := N_raw_in_turn) (sc := defScope s_raw_in_turn) (by decide +kernel)) (fun _ _ _ _ _ => (dg_name (i := 7) sc_raw_in_turn.nd rfl (by first | exact .inl rfl | exact .inr rfl) (by first | exact .inl rfl | exact .inr rfl))) (fun _ _ _ _ _ => dts_nil) (fun _ _ _ _ _ => (de_op op_addD (DE.dl (de_ix hu (dl_var 4) (dl_var 7))) (DE.dl (de_ix hu (dl_var 1) (dl_var 7))))) (by decide)))))) dls_nil))) (by first | exact .inl rfl | exact .inr rfl))
  (dss_cons (ds_set (i := 8) sc_raw_in_turn.nd rfl (DE.x (DF.de (df_callB (call_sortedP hu) (by rfl) T.m_sorted bt_sorted (dls_cons (DE.dl (de_op op_addD (DE.dl (DF.de (df_lst (da_cons (de_var 6) da_nil)))) (DE.dl (DF.de (df_lcN rfl sc_raw_in_turn.nd (pv 4) (blkOk_by (own := [("one", 9)]) (N := N_raw_in_turn) (sc := defScope s_raw_in_turn) (by decide +kernel)) (fun _ _ _ _ _ => (dg_name (i := 9) sc_raw_in_turn.nd rfl (by first | exact .inl rfl | exact .inr rfl) (by first | exact .inl rfl | exact .inr rfl))) (fun _ _ _ _ _ => (dts_one (dt_cmp (op_gtP hu) (DE.dl (de_op op_addD (DE.dl (de_ix hu (dl_var 4) (dl_var 9))) (DE.dl (de_ix hu (dl_var 1) (dl_var 9))))) (dl_var 6)))) (fun _ _ _ _ _ => (de_op op_addD (DE.dl (de_ix hu (dl_var 4) (dl_var 9))) (DE.dl (de_ix hu (dl_var 1) (dl_var 9))))) (by decide)))))) dls_nil)))) (by first | exact .inl rfl | exact .inr rfl))
  (dss_cons (ds_for PassesOwn.never rfl (di_seq (de_var 8)) (dg_name (i := 10) sc_raw_in_turn.nd rfl (by first | exact .inl rfl | exact .inr rfl) (by first | exact .inl rfl | exact .inr rfl)) (dss_cons (ds_set (i := 11) sc_raw_in_turn.nd rfl (DE.x (DF.de (df_dict rfl (dls_cons (DE.dl (de_op op_addD (DE.dl (de_items rfl (dl_var 4) (by rfl) T.m_list)) (DE.dl (DF.de (df_lst (da_cons (de_tup (da_cons (de_var 5) (da_cons (de_var 10) da_nil))) da_nil)))))) dls_nil) (by rfl) T.m_dict))) (by first | exact .inl rfl | exact .inr rfl))
  (dss_cons (ds_if (dt_val (de_call G_is_let mono_is_let hr (by rfl) T.g_is_let T.F_is_let.kp T.b_is_let pass0 (dv_cons (de_var 11) (dv_cons (de_var 1) (dv_cons (de_var 2) dv_nil))))) (dss_cons (ds_set (i := 4) sc_raw_in_turn.nd rfl (DE.x (de_var 11)) (by first | exact .inl rfl | exact .inr rfl))
  (dss_cons ds_break
  dss_nil)) dss_nil)
  dss_nil)))
  dss_nil))))
  (dss_cons (ds_ret (DE.x (de_callTy call_tupleP (by rfl) T.m_tuple bt_tuple (dls_cons (DE.dl (DF.de (df_lc rfl sc_raw_in_turn.nd (DI.lo (di_rng1 (by rfl) T.m_range (da_cons (de_callB call_lenP (by rfl) T.m_len bt_len (dls_cons (dl_var 0) dls_nil)) da_nil))) (blkOk_by (own := [("number", 5)]) (N := N_raw_in_turn) (sc := defScope s_raw_in_turn) (by decide +kernel)) (fun _ _ _ _ _ => (dg_name (i := 5) sc_raw_in_turn.nd rfl (by first | exact .inl rfl | exact .inr rfl) (by first | exact .inl rfl | exact .inr rfl))) (fun _ _ _ _ _ => dts_nil) (fun _ _ _ _ _ => (de_ix hu (dl_var 4) (dl_var 5))) (by decide)))) dls_nil))))
  dss_nil))), ?_⟩
    rfl
  obtain ⟨t, h1, h2⟩ := h
  rw [← h2]
  exact h1
theorem wk_in_turn {P : Program} {w : World} {K : PySem.W.Frag} {mg : Str → Option Value} {base : Heap} (T : Txt K mg) {k : Nat}
  {S_is_order : FSpec} (mono_is_order : MonoF S_is_order) (G_is_order : FnG P w K mg base CX0 k T.f_is_order T.d_is_order P_is_order (spD K false S_is_order))
  {S_keeps_needs : FSpec} (mono_keeps_needs : MonoF S_keeps_needs) (G_keeps_needs : FnG P w K mg base CX0 k T.f_keeps_needs T.d_keeps_needs P_keeps_needs (spD K false S_keeps_needs))
  {S_check_hands : FSpec} (mono_check_hands : MonoF S_check_hands) (G_check_hands : FnG P w K mg base CX0 k T.f_check_hands T.d_check_hands P_check_hands (spD K false S_check_hands))
  {S_raw_in_turn : FSpec} (mono_raw_in_turn : MonoF S_raw_in_turn) (G_raw_in_turn : FnG P w K mg base CX0 k T.f_raw_in_turn T.d_raw_in_turn P_raw_in_turn (spD K false S_raw_in_turn))
  (cdv : Value) (A : Around) (outer : List Env) (s : Shared) (H : Hp) (E : XK) (hr : RoomG k (A.deeper (envOfC "in_turn" (defScope s_in_turn) s.heap.objs.size T.f_in_turn cdv))) :
  DSs (cxOf CX0 P w K mg base N_in_turn "in_turn" (defScope s_in_turn) T.f_in_turn cdv A outer s H E).nox (defBody s_in_turn) (t_in_turn S_is_order S_keeps_needs S_check_hands S_raw_in_turn) := by
  have hu := hu64 hr
  have hu1 := hu1_ hr
  have h : ∃ t, DSs (cxOf CX0 P w K mg base N_in_turn "in_turn" (defScope s_in_turn) T.f_in_turn cdv A outer s H E).nox (defBody s_in_turn) t ∧ t = t_in_turn S_is_order S_keeps_needs S_check_hands S_raw_in_turn := by
    refine ⟨_, (dss_cons (ds_expr (de_call G_check_hands mono_check_hands hr (by rfl) T.g_check_hands T.F_check_hands.kp T.b_check_hands pass0 (dv_cons (de_var 0) (dv_cons (de_var 1) (dv_cons (de_var 2) dv_nil)))))
  (dss_cons (ds_if (DW.dt (dw_or (dt_not (dt_val (de_call G_is_order mono_is_order hr (by rfl) T.g_is_order T.F_is_order.kp T.b_is_order pass0 (dv_cons (de_var 3) (dv_cons (de_callB call_lenP (by rfl) T.m_len bt_len (dls_cons (dl_var 0) dls_nil)) dv_nil))))) (dw_or1 (dt_not (dt_val (de_call G_keeps_needs mono_keeps_needs hr (by rfl) T.g_keeps_needs T.F_keeps_needs.kp T.b_keeps_needs pass0 (dv_cons (de_var 0) (dv_cons (de_var 3) dv_nil)))))))) (dss_cons ds_never
  dss_nil) dss_nil)
  (dss_cons (ds_ret (DE.x (de_call G_raw_in_turn mono_raw_in_turn hr (by rfl) T.g_raw_in_turn T.F_raw_in_turn.kp T.b_raw_in_turn pass0 (dv_cons (de_var 0) (dv_cons (de_var 1) (dv_cons (de_var 2) (dv_cons (de_var 3) dv_nil)))))))
  dss_nil))), ?_⟩
    rfl
  obtain ⟨t, h1, h2⟩ := h
  rw [← h2]
  exact h1
theorem wk_end_of {P : Program} {w : World} {K : PySem.W.Frag} {mg : Str → Option Value} {base : Heap} (T : Txt K mg) {k : Nat}
  (cdv : Value) (A : Around) (outer : List Env) (s : Shared) (H : Hp) (E : XK) (hr : RoomG k (A.deeper (envOfC "end_of" (defScope s_end_of) s.heap.objs.size T.f_end_of cdv))) :
  DSs (cxOf CX0 P w K mg base N_end_of "end_of" (defScope s_end_of) T.f_end_of cdv A outer s H E).nox (defBody s_end_of) t_end_of := by
  have hu := hu64 hr
  have hu1 := hu1_ hr
  have h : ∃ t, DSs (cxOf CX0 P w K mg base N_end_of "end_of" (defScope s_end_of) T.f_end_of cdv A outer s H E).nox (defBody s_end_of) t ∧ t = t_end_of := by
    refine ⟨_, (dss_cons (ds_ret (DE.x (de_callB (call_maxP rfl hu) (by rfl) T.m_max bt_max (dls_cons (DE.dl (DF.de (df_lc rfl sc_end_of.nd (DI.lo (di_zip (by rfl) T.m_zip (da_cons (de_var 0) (da_cons (de_var 1) da_nil)))) (blkOk_by (own := [("begin", 2), ("time", 3)]) (N := N_end_of) (sc := defScope s_end_of) (by decide +kernel)) (fun _ _ _ _ _ => (dg_tup (n := 2) rfl (dgs_cons (dg_name (i := 2) sc_end_of.nd rfl (by first | exact .inl rfl | exact .inr rfl) (by first | exact .inl rfl | exact .inr rfl)) (dgs_cons (dg_name (i := 3) sc_end_of.nd rfl (by first | exact .inl rfl | exact .inr rfl) (by first | exact .inl rfl | exact .inr rfl)) dgs_nil)))) (fun _ _ _ _ _ => dts_nil) (fun _ _ _ _ _ => (de_op op_addD (dl_var 2) (dl_var 3))) (by decide)))) dls_nil))))
  dss_nil), ?_⟩
    rfl
  obtain ⟨t, h1, h2⟩ := h
  rw [← h2]
  exact h1
theorem wk_raw_least_time {P : Program} {w : World} {K : PySem.W.Frag} {mg : Str → Option Value} {base : Heap} (T : Txt K mg) {k : Nat}
  {S_all_orders : FSpec} (mono_all_orders : MonoF S_all_orders) (G_all_orders : FnG P w K mg base CX0 k T.f_all_orders T.d_all_orders P_all_orders (spD K false S_all_orders))
  {S_keeps_needs : FSpec} (mono_keeps_needs : MonoF S_keeps_needs) (G_keeps_needs : FnG P w K mg base CX0 k T.f_keeps_needs T.d_keeps_needs P_keeps_needs (spD K false S_keeps_needs))
  {S_raw_in_turn : FSpec} (mono_raw_in_turn : MonoF S_raw_in_turn) (G_raw_in_turn : FnG P w K mg base CX0 k T.f_raw_in_turn T.d_raw_in_turn P_raw_in_turn (spD K false S_raw_in_turn))
  {S_end_of : FSpec} (mono_end_of : MonoF S_end_of) (G_end_of : FnG P w K mg base CX0 k T.f_end_of T.d_end_of P_end_of (spD K false S_end_of))
  (cdv : Value) (A : Around) (outer : List Env) (s : Shared) (H : Hp) (E : XK) (hr : RoomG k (A.deeper (envOfC "raw_least_time" (defScope s_raw_least_time) s.heap.objs.size T.f_raw_least_time cdv))) :
  DSs (cxOf CX0 P w K mg base N_raw_least_time "raw_least_time" (defScope s_raw_least_time) T.f_raw_least_time cdv A outer s H E).nox (defBody s_raw_least_time) (t_raw_least_time S_all_orders S_keeps_needs S_raw_in_turn S_end_of) := by
  have hu := hu64 hr
  have hu1 := hu1_ hr
  have h : ∃ t, DSs (cxOf CX0 P w K mg base N_raw_least_time "raw_least_time" (defScope s_raw_least_time) T.f_raw_least_time cdv A outer s H E).nox (defBody s_raw_least_time) t ∧ t = t_raw_least_time S_all_orders S_keeps_needs S_raw_in_turn S_end_of := by
    refine ⟨_, (dss_cons (ds_if (dt_cmp (op_gtP hu) (DE.dl (de_callB call_lenP (by rfl) T.m_len bt_len (dls_cons (dl_var 0) dls_nil))) (DE.dl (de_gint (by rfl) T.c_MOST_PLANNED))) (dss_cons ds_never
  dss_nil) dss_nil)
  (dss_cons (ds_set (i := 3) sc_raw_least_time.nd rfl (DF.x (df_lst da_nil)) (by first | exact .inl rfl | exact .inr rfl))
  (dss_cons (ds_for PassesOwn.never rfl (di_seq (de_call G_all_orders mono_all_orders hr (by rfl) T.g_all_orders T.F_all_orders.kp T.b_all_orders pass0 (dv_cons (de_callB call_lenP (by rfl) T.m_len bt_len (dls_cons (dl_var 0) dls_nil)) dv_nil))) (dg_name (i := 4) sc_raw_least_time.nd rfl (by first | exact .inl rfl | exact .inr rfl) (by first | exact .inl rfl | exact .inr rfl)) (dss_cons (ds_if (dt_val (de_call G_keeps_needs mono_keeps_needs hr (by rfl) T.g_keeps_needs T.F_keeps_needs.kp T.b_keeps_needs pass0 (dv_cons (de_var 0) (dv_cons (de_var 4) dv_nil)))) (dss_cons (ds_set (i := 5) sc_raw_least_time.nd rfl (DE.x (de_call G_raw_in_turn mono_raw_in_turn hr (by rfl) T.g_raw_in_turn T.F_raw_in_turn.kp T.b_raw_in_turn pass0 (dv_cons (de_var 0) (dv_cons (de_var 1) (dv_cons (de_var 2) (dv_cons (de_var 4) dv_nil)))))) (by first | exact .inl rfl | exact .inr rfl))
  (dss_cons (ds_expr (de_append (pv 3) (de_tup (da_cons (de_call G_end_of mono_end_of hr (by rfl) T.g_end_of T.F_end_of.kp T.b_end_of pass0 (dv_cons (de_var 5) (dv_cons (de_var 1) dv_nil))) (da_cons (de_var 5) da_nil)))))
  dss_nil)) dss_nil)
  dss_nil))
  (dss_cons (ds_ret (DE.x (de_callB (call_minP rfl hu) (by rfl) T.m_min bt_min (dls_cons (dl_var 3) dls_nil))))
  dss_nil)))), ?_⟩
    rfl
  obtain ⟨t, h1, h2⟩ := h
  rw [← h2]
  exact h1
theorem wk_least_time {P : Program} {w : World} {K : PySem.W.Frag} {mg : Str → Option Value} {base : Heap} (T : Txt K mg) {k : Nat}
  {S_check_hands : FSpec} (mono_check_hands : MonoF S_check_hands) (G_check_hands : FnG P w K mg base CX0 k T.f_check_hands T.d_check_hands P_check_hands (spD K false S_check_hands))
  {S_raw_least_time : FSpec} (mono_raw_least_time : MonoF S_raw_least_time) (G_raw_least_time : FnG P w K mg base CX0 k T.f_raw_least_time T.d_raw_least_time P_raw_least_time (spD K false S_raw_least_time))
  (cdv : Value) (A : Around) (outer : List Env) (s : Shared) (H : Hp) (E : XK) (hr : RoomG k (A.deeper (envOfC "least_time" (defScope s_least_time) s.heap.objs.size T.f_least_time cdv))) :
  DSs (cxOf CX0 P w K mg base N_least_time "least_time" (defScope s_least_time) T.f_least_time cdv A outer s H E).nox (defBody s_least_time) (t_least_time S_check_hands S_raw_least_time) := by
  have hu := hu64 hr
  have hu1 := hu1_ hr
  have h : ∃ t, DSs (cxOf CX0 P w K mg base N_least_time "least_time" (defScope s_least_time) T.f_least_time cdv A outer s H E).nox (defBody s_least_time) t ∧ t = t_least_time S_check_hands S_raw_least_time := by
    refine ⟨_, (dss_cons (ds_expr (de_call G_check_hands mono_check_hands hr (by rfl) T.g_check_hands T.F_check_hands.kp T.b_check_hands pass0 (dv_cons (de_var 0) (dv_cons (de_var 1) (dv_cons (de_var 2) dv_nil)))))
  (dss_cons (ds_ret (DE.x (de_call G_raw_least_time mono_raw_least_time hr (by rfl) T.g_raw_least_time T.F_raw_least_time.kp T.b_raw_least_time pass0 (dv_cons (de_var 0) (dv_cons (de_var 1) (dv_cons (de_var 2) dv_nil))))))
  dss_nil)), ?_⟩
    rfl
  obtain ⟨t, h1, h2⟩ := h
  rw [← h2]
  exact h1
theorem wk_is_least_time {P : Program} {w : World} {K : PySem.W.Frag} {mg : Str → Option Value} {base : Heap} (T : Txt K mg) {k : Nat}
  {S_is_within : FSpec} (mono_is_within : MonoF S_is_within) (G_is_within : FnG P w K mg base CX0 k T.f_is_within T.d_is_within P_is_within (spD K false S_is_within))
  {S_is_sized : FSpec} (mono_is_sized : MonoF S_is_sized) (G_is_sized : FnG P w K mg base CX0 k T.f_is_sized T.d_is_sized P_is_sized (spD K false S_is_sized))
  {S_check_hands : FSpec} (mono_check_hands : MonoF S_check_hands) (G_check_hands : FnG P w K mg base CX0 k T.f_check_hands T.d_check_hands P_check_hands (spD K false S_check_hands))
  {S_is_plan_for : FSpec} (mono_is_plan_for : MonoF S_is_plan_for) (G_is_plan_for : FnG P w K mg base CX0 k T.f_is_plan_for T.d_is_plan_for P_is_plan_for (spD K false S_is_plan_for))
  {S_end_of : FSpec} (mono_end_of : MonoF S_end_of) (G_end_of : FnG P w K mg base CX0 k T.f_end_of T.d_end_of P_end_of (spD K false S_end_of))
  {S_raw_least_time : FSpec} (mono_raw_least_time : MonoF S_raw_least_time) (G_raw_least_time : FnG P w K mg base CX0 k T.f_raw_least_time T.d_raw_least_time P_raw_least_time (spD K false S_raw_least_time))
  (cdv : Value) (A : Around) (outer : List Env) (s : Shared) (H : Hp) (E : XK) (hr : RoomG k (A.deeper (envOfC "is_least_time" (defScope s_is_least_time) s.heap.objs.size T.f_is_least_time cdv))) :
  DSs (cxOf CX0 P w K mg base N_is_least_time "is_least_time" (defScope s_is_least_time) T.f_is_least_time cdv A outer s H E).nox (defBody s_is_least_time) (t_is_least_time S_is_within S_is_sized S_check_hands S_is_plan_for S_end_of S_raw_least_time) := by
  have hu := hu64 hr
  have hu1 := hu1_ hr
  have h : ∃ t, DSs (cxOf CX0 P w K mg base N_is_least_time "is_least_time" (defScope s_is_least_time) T.f_is_least_time cdv A outer s H E).nox (defBody s_is_least_time) t ∧ t = t_is_least_time S_is_within S_is_sized S_check_hands S_is_plan_for S_end_of S_raw_least_time := by
    refine ⟨_, (dss_cons (ds_expr (de_call G_check_hands mono_check_hands hr (by rfl) T.g_check_hands T.F_check_hands.kp T.b_check_hands pass0 (dv_cons (de_var 0) (dv_cons (de_var 1) (dv_cons (de_var 2) dv_nil)))))
  (dss_cons (ds_set (i := 4) sc_is_least_time.nd rfl (DE.x (de_ix hu (DE.dl (de_call G_raw_least_time mono_raw_least_time hr (by rfl) T.g_raw_least_time T.F_raw_least_time.kp T.b_raw_least_time pass0 (dv_cons (de_var 0) (dv_cons (de_var 1) (dv_cons (de_var 2) dv_nil))))) (DE.dl de_int))) (by first | exact .inl rfl | exact .inr rfl))
  (dss_cons (ds_if (DW.dt (dw_or (dt_not (dt_val (de_call G_is_sized mono_is_sized hr (by rfl) T.g_is_sized T.F_is_sized.kp T.b_is_sized pass0 (dv_cons (de_var 3) (dv_cons de_int (dv_cons de_int dv_nil)))))) (dw_or1 (dt_not (dt_val (de_call G_is_within mono_is_within hr (by rfl) T.g_is_within T.F_is_within.kp T.b_is_within pass0 (dv_cons (de_ix hu (dl_var 3) (DE.dl de_int)) (dv_cons (de_var 4) (dv_cons (de_var 4) dv_nil))))))))) (dss_cons (ds_ret (DE.x de_bl))
  dss_nil) dss_nil)
  (dss_cons (ds_ret (DE.x (de_and (de_call G_is_plan_for mono_is_plan_for hr (by rfl) T.g_is_plan_for T.F_is_plan_for.kp T.b_is_plan_for pass0 (dv_cons (de_var 0) (dv_cons (de_var 1) (dv_cons (de_var 2) (dv_cons (de_ix hu (dl_var 3) (DE.dl de_int)) dv_nil))))) (de_one (de_cmp (op_eqP hu) (DE.dl (de_call G_end_of mono_end_of hr (by rfl) T.g_end_of T.F_end_of.kp T.b_end_of pass0 (dv_cons (de_ix hu (dl_var 3) (DE.dl de_int)) (dv_cons (de_var 1) dv_nil)))) (dl_var 4))))))
  dss_nil)))), ?_⟩
    rfl
  obtain ⟨t, h1, h2⟩ := h
  rw [← h2]
  exact h1
theorem wk__law_draw {P : Program} {w : World} {K : PySem.W.Frag} {mg : Str → Option Value} {base : Heap} (T : Txt K mg) {k : Nat}
  (cdv : Value) (A : Around) (outer : List Env) (s : Shared) (H : Hp) (E : XK) (hr : RoomG k (A.deeper (envOfC "_law_draw" (defScope s__law_draw) s.heap.objs.size T.f__law_draw cdv))) :
  DSs (cxOf CX0 P w K mg base N__law_draw "_law_draw" (defScope s__law_draw) T.f__law_draw cdv A outer s H E).nox (defBody s__law_draw) t__law_draw := by
  have hu := hu64 hr
  have hu1 := hu1_ hr
  have h : ∃ t, DSs (cxOf CX0 P w K mg base N__law_draw "_law_draw" (defScope s__law_draw) T.f__law_draw cdv A outer s H E).nox (defBody s__law_draw) t ∧ t = t__law_draw := by
    refine ⟨_, (dss_cons (ds_if (DW.dt (dw_and (dt_cmp (op_eqP hu) (DE.dl (de_hix hu (pv 0) de_int)) (DE.dl de_int)) (dw_and1 (dt_cmp (op_ltP hu) (DE.dl (de_hix hu (pv 0) de_int)) (DE.dl (de_callB call_lenP (by rfl) T.m_len bt_len (dls_cons (DE.dl (de_hix hu (pv 0) de_int)) dls_nil))))))) (dss_cons (ds_set (i := 2) sc__law_draw.nd rfl (DE.x (de_ix hu (DE.dl (de_hix hu (pv 0) de_int)) (DE.dl (de_hix hu (pv 0) de_int)))) (by first | exact .inl rfl | exact .inr rfl))
  (dss_cons (ds_put hu1 (de_op op_addD (DE.dl (de_hix hu (pv 0) de_int)) (DE.dl de_int)) (pv 0) de_int)
  (dss_cons (ds_put hu1 (de_op op_modD (DE.dl (de_callTy call_intP (by rfl) T.m_int bt_int (dls_cons (DE.dl (de_op op_addD (DE.dl (de_op op_addD (DE.dl (de_op op_mulD (DE.dl (de_hix hu (pv 0) de_int)) (DE.dl de_int))) (DE.dl (de_op op_mulD (dl_var 2) (DE.dl de_int))))) (DE.dl de_int))) dls_nil))) (DE.dl de_int)) (pv 0) de_int)
  (dss_cons (ds_if (dt_cmp (op_geP hu) (dl_var 2) (DE.dl (de_op op_powD (DE.dl de_int) (DE.dl de_int)))) (dss_cons (ds_put hu1 (de_var 2) (pv 0) de_int)
  dss_nil) dss_nil)
  dss_nil)))) dss_nil)
  (dss_cons (ds_if (dt_cmp (op_gtP hu) (DE.dl (de_hix hu (pv 0) de_int)) (DE.dl de_int)) (dss_cons (ds_set (i := 3) sc__law_draw.nd rfl (DE.x (de_op op_modD (DE.dl (de_callTy call_intP (by rfl) T.m_int bt_int (dls_cons (DE.dl (de_hix hu (pv 0) de_int)) dls_nil))) (dl_var 1))) (by first | exact .inl rfl | exact .inr rfl))
  (dss_cons (ds_put hu1 (de_op op_divD (DE.dl (de_hix hu (pv 0) de_int)) (dl_var 1)) (pv 0) de_int)
  (dss_cons (ds_ret (DE.x (de_var 3)))
  dss_nil))) dss_nil)
  (dss_cons (ds_put hu1 (de_op op_addD (DE.dl (de_hix hu (pv 0) de_int)) (DE.dl de_int)) (pv 0) de_int)
  (dss_cons (ds_set (i := 4) sc__law_draw.nd rfl (DE.x (de_op op_modD (DE.dl (de_callTy call_intP (by rfl) T.m_int bt_int (dls_cons (DE.dl (de_op op_mulD (DE.dl (de_callTy call_intP (by rfl) T.m_int bt_int (dls_cons (DE.dl (de_op op_addD (DE.dl (de_hix hu (pv 0) de_int)) (DE.dl (de_op op_mulD (DE.dl de_int) (DE.dl (de_hix hu (pv 0) de_int)))))) dls_nil))) (DE.dl de_int))) dls_nil))) (DE.dl de_int))) (by first | exact .inl rfl | exact .inr rfl))
  (dss_cons (ds_set (i := 4) sc__law_draw.nd rfl (DE.x (de_op op_modD (DE.dl (de_callTy call_intP (by rfl) T.m_int bt_int (dls_cons (DE.dl (de_op op_mulD (dl_var 4) (DE.dl (de_op op_addD (DE.dl (de_op op_divD (dl_var 4) (DE.dl de_int))) (DE.dl de_int))))) dls_nil))) (DE.dl de_int))) (by first | exact .inl rfl | exact .inr rfl))
  (dss_cons (ds_set (i := 4) sc__law_draw.nd rfl (DE.x (de_op op_modD (DE.dl (de_callTy call_intP (by rfl) T.m_int bt_int (dls_cons (DE.dl (de_op op_mulD (dl_var 4) (DE.dl (de_op op_addD (DE.dl (de_op op_divD (dl_var 4) (DE.dl de_int))) (DE.dl de_int))))) dls_nil))) (DE.dl de_int))) (by first | exact .inl rfl | exact .inr rfl))
  (dss_cons (ds_ret (DE.x (de_op op_modD (DE.dl (de_callTy call_intP (by rfl) T.m_int bt_int (dls_cons (DE.dl (de_op op_divD (dl_var 4) (DE.dl de_int))) dls_nil))) (dl_var 1))))
  dss_nil))))))), ?_⟩
    rfl
  obtain ⟨t, h1, h2⟩ := h
  rw [← h2]
  exact h1
theorem wk__law_any {P : Program} {w : World} {K : PySem.W.Frag} {mg : Str → Option Value} {base : Heap} (T : Txt K mg) {k : Nat}
  {S__law_draw : FSpec} (mono__law_draw : MonoF S__law_draw) (G__law_draw : FnG P w K mg base CX0 k T.f__law_draw T.d__law_draw P__law_draw (spD K false S__law_draw))
  (cdv : Value) (A : Around) (outer : List Env) (s : Shared) (H : Hp) (E : XK) (hr : RoomG k (A.deeper (envOfC "_law_any" (defScope s__law_any) s.heap.objs.size T.f__law_any cdv))) :
  DSs (cxOf CX0 P w K mg base N__law_any "_law_any" (defScope s__law_any) T.f__law_any cdv A outer s H E).nox (defBody s__law_any) (t__law_any S__law_draw) := by
  have hu := hu64 hr
  have hu1 := hu1_ hr
  have h : ∃ t, DSs (cxOf CX0 P w K mg base N__law_any "_law_any" (defScope s__law_any) T.f__law_any cdv A outer s H E).nox (defBody s__law_any) t ∧ t = t__law_any S__law_draw := by
    refine ⟨_, (dss_cons (ds_ret (DE.x (de_ix hu (dl_var 1) (DE.dl (de_call G__law_draw mono__law_draw hr (by rfl) T.g__law_draw T.F__law_draw.kp T.b__law_draw pass0 (dv_hand (pv 0) (dv_cons (de_callB call_lenP (by rfl) T.m_len bt_len (dls_cons (dl_var 1) dls_nil)) dv_nil)))))))
  dss_nil), ?_⟩
    rfl
  obtain ⟨t, h1, h2⟩ := h
  rw [← h2]
  exact h1
theorem wk__law_mixed {P : Program} {w : World} {K : PySem.W.Frag} {mg : Str → Option Value} {base : Heap} (T : Txt K mg) {k : Nat}
  {S__law_draw : FSpec} (mono__law_draw : MonoF S__law_draw) (G__law_draw : FnG P w K mg base CX0 k T.f__law_draw T.d__law_draw P__law_draw (spD K false S__law_draw))
  (cdv : Value) (A : Around) (outer : List Env) (s : Shared) (H : Hp) (E : XK) (hr : RoomG k (A.deeper (envOfC "_law_mixed" (defScope s__law_mixed) s.heap.objs.size T.f__law_mixed cdv))) :
  DSs (cxOf CX0 P w K mg base N__law_mixed "_law_mixed" (defScope s__law_mixed) T.f__law_mixed cdv A outer s H E).nox (defBody s__law_mixed) (t__law_mixed S__law_draw) := by
  have hu := hu64 hr
  have hu1 := hu1_ hr
  have h : ∃ t, DSs (cxOf CX0 P w K mg base N__law_mixed "_law_mixed" (defScope s__law_mixed) T.f__law_mixed cdv A outer s H E).nox (defBody s__law_mixed) t ∧ t = t__law_mixed S__law_draw := by
    refine ⟨_, (dss_cons (ds_par2 (i := 2) (j := 3) rfl sc__law_mixed.nd rfl rfl (dm_cons (DF.x (df_callTy call_listP (by rfl) T.m_list bt_list (dls_cons (dl_var 1) dls_nil))) (dm_cons (DF.x (df_lst da_nil)) dm_nil)))
  (dss_cons (ds_while PassesOwn.never (dt_cmp (op_gtP hu) (DE.dl (de_callB call_lenP (by rfl) T.m_len bt_len (dls_cons (dl_var 2) dls_nil))) (DE.dl de_int)) (dss_cons (ds_expr (de_append (pv 3) (de_popAt (pv 2) (de_call G__law_draw mono__law_draw hr (by rfl) T.g__law_draw T.F__law_draw.kp T.b__law_draw pass0 (dv_hand (pv 0) (dv_cons (de_callB call_lenP (by rfl) T.m_len bt_len (dls_cons (dl_var 2) dls_nil)) dv_nil))))))
  dss_nil))
  (dss_cons (ds_retV (pv 3))
  dss_nil))), ?_⟩
    rfl
  obtain ⟨t, h1, h2⟩ := h
  rw [← h2]
  exact h1
theorem wk__law_same {P : Program} {w : World} {K : PySem.W.Frag} {mg : Str → Option Value} {base : Heap} (T : Txt K mg) {k : Nat}
  {S__law_same : FSpec} (mono__law_same : MonoF S__law_same) (G__law_same : FnG P w K mg base CX0 k T.f__law_same T.d__law_same P__law_same (spD K false S__law_same))
  (cdv : Value) (A : Around) (outer : List Env) (s : Shared) (H : Hp) (E : XK) (hr : RoomG k (A.deeper (envOfC "_law_same" (defScope s__law_same) s.heap.objs.size T.f__law_same cdv))) :
  DSs (cxOf CX0 P w K mg base N__law_same "_law_same" (defScope s__law_same) T.f__law_same cdv A outer s H E).nox (defBody s__law_same) (t__law_same S__law_same) := by
  have hu := hu64 hr
  have hu1 := hu1_ hr
  have h : ∃ t, DSs (cxOf CX0 P w K mg base N__law_same "_law_same" (defScope s__law_same) T.f__law_same cdv A outer s H E).nox (defBody s__law_same) t ∧ t = t__law_same S__law_same := by
    refine ⟨_, (dss_cons (ds_if (DW.dt (dw_or (dt_val (de_isa isa_tuple (dl_var 1) (by rfl) T.m_isinstance bt_isinstance (by rfl) T.m_tuple bt_tuple)) (dw_or1 (dt_val (de_isa isa_list (dl_var 1) (by rfl) T.m_isinstance bt_isinstance (by rfl) T.m_list bt_list))))) (dss_cons (ds_if (DW.dt (dw_or (dt_cmp (op_neP hu) (DE.dl (de_isa isa_tuple (dl_var 0) (by rfl) T.m_isinstance bt_isinstance (by rfl) T.m_tuple bt_tuple)) (DE.dl (de_isa isa_tuple (dl_var 1) (by rfl) T.m_isinstance bt_isinstance (by rfl) T.m_tuple bt_tuple))) (dw_or1 (dt_cmp (op_neP hu) (DE.dl (de_isa isa_list (dl_var 0) (by rfl) T.m_isinstance bt_isinstance (by rfl) T.m_list bt_list)) (DE.dl (de_isa isa_list (dl_var 1) (by rfl) T.m_isinstance bt_isinstance (by rfl) T.m_list bt_list)))))) (dss_cons (ds_ret (DE.x de_bl))
  dss_nil) dss_nil)
  (dss_cons (ds_ret (DE.x (de_and (de_cmp (op_eqP hu) (DE.dl (de_callB call_lenP (by rfl) T.m_len bt_len (dls_cons (dl_var 0) dls_nil))) (DE.dl (de_callB call_lenP (by rfl) T.m_len bt_len (dls_cons (dl_var 1) dls_nil)))) (de_one (de_callB (call_allP rfl) (by rfl) T.m_all bt_all (dls_cons (DE.dl (DF.de (df_lc rfl sc__law_same.nd (DI.lo (di_zip (by rfl) T.m_zip (da_cons (de_var 0) (da_cons (de_var 1) da_nil)))) (blkOk_by (own := [("a", 2), ("b", 3)]) (N := N__law_same) (sc := defScope s__law_same) (by decide +kernel)) (fun _ _ _ _ _ => (dg_tup (n := 2) rfl (dgs_cons (dg_name (i := 2) sc__law_same.nd rfl (by first | exact .inl rfl | exact .inr rfl) (by first | exact .inl rfl | exact .inr rfl)) (dgs_cons (dg_name (i := 3) sc__law_same.nd rfl (by first | exact .inl rfl | exact .inr rfl) (by first | exact .inl rfl | exact .inr rfl)) dgs_nil)))) (fun _ _ _ _ _ => dts_nil) (fun _ _ _ _ _ => (de_call G__law_same mono__law_same hr (by rfl) T.g__law_same T.F__law_same.kp T.b__law_same pass0 (dv_cons (de_var 2) (dv_cons (de_var 3) dv_nil)))) (by decide)))) dls_nil))))))
  dss_nil)) dss_nil)
  (dss_cons (ds_if (DW.dt (dw_or (dt_cmp (op_neP hu) (DE.dl (de_isa isa_bool (dl_var 0) (by rfl) T.m_isinstance bt_isinstance (by rfl) T.m_bool bt_bool)) (DE.dl (de_isa isa_bool (dl_var 1) (by rfl) T.m_isinstance bt_isinstance (by rfl) T.m_bool bt_bool))) (dw_or1 (dt_cmp (op_neP hu) (DE.dl (de_cmp op_isP (dl_var 0) (DE.dl de_non))) (DE.dl (de_cmp op_isP (dl_var 1) (DE.dl de_non))))))) (dss_cons (ds_ret (DE.x de_bl))
  dss_nil) dss_nil)
  (dss_cons (ds_ret (DE.x (de_and (de_cmp (op_eqP hu) (DE.dl (de_isa isa_int (dl_var 0) (by rfl) T.m_isinstance bt_isinstance (by rfl) T.m_int bt_int)) (DE.dl (de_isa isa_int (dl_var 1) (by rfl) T.m_isinstance bt_isinstance (by rfl) T.m_int bt_int))) (de_one (de_cmp (op_eqP hu) (dl_var 0) (dl_var 1))))))
  dss_nil))), ?_⟩
    rfl
  obtain ⟨t, h1, h2⟩ := h
  rw [← h2]
  exact h1
theorem wk__law_is_integer {P : Program} {w : World} {K : PySem.W.Frag} {mg : Str → Option Value} {base : Heap} (T : Txt K mg) {k : Nat}
  (cdv : Value) (A : Around) (outer : List Env) (s : Shared) (H : Hp) (E : XK) (hr : RoomG k (A.deeper (envOfC "_law_is_integer" (defScope s__law_is_integer) s.heap.objs.size T.f__law_is_integer cdv))) :
  DSs (cxOf CX0 P w K mg base N__law_is_integer "_law_is_integer" (defScope s__law_is_integer) T.f__law_is_integer cdv A outer s H E).nox (defBody s__law_is_integer) t__law_is_integer := by
  have hu := hu64 hr
  have hu1 := hu1_ hr
  have h : ∃ t, DSs (cxOf CX0 P w K mg base N__law_is_integer "_law_is_integer" (defScope s__law_is_integer) T.f__law_is_integer cdv A outer s H E).nox (defBody s__law_is_integer) t ∧ t = t__law_is_integer := by
    refine ⟨_, (dss_cons (ds_ret (DE.x (de_and (de_isa isa_int (dl_var 0) (by rfl) T.m_isinstance bt_isinstance (by rfl) T.m_int bt_int) (de_one (de_not (DE.dl (de_isa isa_bool (dl_var 0) (by rfl) T.m_isinstance bt_isinstance (by rfl) T.m_bool bt_bool)))))))
  dss_nil), ?_⟩
    rfl
  obtain ⟨t, h1, h2⟩ := h
  rw [← h2]
  exact h1
theorem wk__law_round_free {P : Program} {w : World} {K : PySem.W.Frag} {mg : Str → Option Value} {base : Heap} (T : Txt K mg) {k : Nat}
  {S__law_draw : FSpec} (mono__law_draw : MonoF S__law_draw) (G__law_draw : FnG P w K mg base CX0 k T.f__law_draw T.d__law_draw P__law_draw (spD K false S__law_draw))
  {S__law_any : FSpec} (mono__law_any : MonoF S__law_any) (G__law_any : FnG P w K mg base CX0 k T.f__law_any T.d__law_any P__law_any (spD K false S__law_any))
  {S__law_mixed : FSpec} (mono__law_mixed : MonoF S__law_mixed) (G__law_mixed : FnG P w K mg base CX0 k T.f__law_mixed T.d__law_mixed P__law_mixed (spD K false S__law_mixed))
  (cdv : Value) (A : Around) (outer : List Env) (s : Shared) (H : Hp) (E : XK) (hr : RoomG k (A.deeper (envOfC "_law_round_free" (defScope s__law_round_free) s.heap.objs.size T.f__law_round_free cdv))) :
  DSs (cxOf CX0 P w K mg base N__law_round_free "_law_round_free" (defScope s__law_round_free) T.f__law_round_free cdv A outer s H E).nox (defBody s__law_round_free) (t__law_round_free S__law_draw S__law_any S__law_mixed) := by
  have hu := hu64 hr
  have hu1 := hu1_ hr
  have h : ∃ t, DSs (cxOf CX0 P w K mg base N__law_round_free "_law_round_free" (defScope s__law_round_free) T.f__law_round_free cdv A outer s H E).nox (defBody s__law_round_free) t ∧ t = t__law_round_free S__law_draw S__law_any S__law_mixed := by
    refine ⟨_, (dss_cons (ds_set (i := 2) sc__law_round_free.nd rfl (DE.x (de_op op_addD (DE.dl de_int) (DE.dl (de_call G__law_draw mono__law_draw hr (by rfl) T.g__law_draw T.F__law_draw.kp T.b__law_draw pass0 (dv_hand (pv 0) (dv_cons (de_var 1) dv_nil)))))) (by first | exact .inl rfl | exact .inr rfl))
  (dss_cons (ds_par2 (i := 3) (j := 4) rfl sc__law_round_free.nd rfl rfl (dm_cons (DE.x (de_call G__law_mixed mono__law_mixed hr (by rfl) T.g__law_mixed T.F__law_mixed.kp T.b__law_mixed pass0 (dv_hand (pv 0) (dv_cons (DF.de (df_listRg rfl (by rfl) T.m_list (by rfl) T.m_range (de_var 2))) dv_nil)))) (dm_cons (DF.x (df_op op_repF (DE.dl (DF.de (df_lst (da_cons (de_tup da_nil) da_nil)))) (dl_var 2))) dm_nil)))
  (dss_cons (ds_set (i := 5) sc__law_round_free.nd rfl (DE.x (de_call G__law_any mono__law_any hr (by rfl) T.g__law_any T.F__law_any.kp T.b__law_any pass0 (dv_hand (pv 0) (dv_cons (DF.de (df_lst (da_cons de_int (da_cons de_int (da_cons de_int da_nil))))) dv_nil)))) (by first | exact .inl rfl | exact .inr rfl))
  (dss_cons (ds_for PassesOwn.never rfl (di_enum (by rfl) T.m_enumerate (da_cons (de_var 3) da_nil)) (dg_tup (n := 2) rfl (dgs_cons (dg_name (i := 6) sc__law_round_free.nd rfl (by first | exact .inl rfl | exact .inr rfl) (by first | exact .inl rfl | exact .inr rfl)) (dgs_cons (dg_name (i := 7) sc__law_round_free.nd rfl (by first | exact .inl rfl | exact .inr rfl) (by first | exact .inl rfl | exact .inr rfl)) dgs_nil))) (dss_cons (ds_put hu1 (de_callTy call_tupleP (by rfl) T.m_tuple bt_tuple (dls_cons (DE.dl (DF.de (df_callB (call_sortedP hu) (by rfl) T.m_sorted bt_sorted (dls_cons (DE.dl (DF.de (df_lc rfl sc__law_round_free.nd (DI.lo (di_seq (de_slice (dl_var 3) do_none (do_some (de_var 6))))) (blkOk_by (own := [("one", 8)]) (N := N__law_round_free) (sc := defScope s__law_round_free) (by decide +kernel)) (fun _ _ _ _ _ => (dg_name (i := 8) sc__law_round_free.nd rfl (by first | exact .inl rfl | exact .inr rfl) (by first | exact .inl rfl | exact .inr rfl))) (fun _ _ _ _ _ => (dts_one (dt_cmp (op_eqP hu) (DE.dl (de_call G__law_draw mono__law_draw hr (by rfl) T.g__law_draw T.F__law_draw.kp T.b__law_draw pass0 (dv_hand (pv 0) (dv_cons (de_var 5) dv_nil)))) (DE.dl de_int)))) (fun _ _ _ _ _ => (de_var 8)) (by decide)))) dls_nil)))) dls_nil)) (pv 4) (de_var 7))
  dss_nil))
  (dss_cons (ds_ret (DE.x (de_callTy call_tupleP (by rfl) T.m_tuple bt_tuple (dls_cons (dl_var 4) dls_nil))))
  dss_nil))))), ?_⟩
    rfl
  obtain ⟨t, h1, h2⟩ := h
  rw [← h2]
  exact h1
theorem wk__law_times {P : Program} {w : World} {K : PySem.W.Frag} {mg : Str → Option Value} {base : Heap} (T : Txt K mg) {k : Nat}
  {S__law_draw : FSpec} (mono__law_draw : MonoF S__law_draw) (G__law_draw : FnG P w K mg base CX0 k T.f__law_draw T.d__law_draw P__law_draw (spD K false S__law_draw))
  {S__law_any : FSpec} (mono__law_any : MonoF S__law_any) (G__law_any : FnG P w K mg base CX0 k T.f__law_any T.d__law_any P__law_any (spD K false S__law_any))
  (cdv : Value) (A : Around) (outer : List Env) (s : Shared) (H : Hp) (E : XK) (hr : RoomG k (A.deeper (envOfC "_law_times" (defScope s__law_times) s.heap.objs.size T.f__law_times cdv))) :
  DSs (cxOf CX0 P w K mg base N__law_times "_law_times" (defScope s__law_times) T.f__law_times cdv A outer s H E).nox (defBody s__law_times) (t__law_times S__law_draw S__law_any) := by
  have hu := hu64 hr
  have hu1 := hu1_ hr
  have h : ∃ t, DSs (cxOf CX0 P w K mg base N__law_times "_law_times" (defScope s__law_times) T.f__law_times cdv A outer s H E).nox (defBody s__law_times) t ∧ t = t__law_times S__law_draw S__law_any := by
    refine ⟨_, (dss_cons (ds_set (i := 2) sc__law_times.nd rfl (DE.x (de_call G__law_any mono__law_any hr (by rfl) T.g__law_any T.F__law_any.kp T.b__law_any pass0 (dv_hand (pv 0) (dv_cons (DF.de (df_lst (da_cons de_int (da_cons de_int (da_cons de_int (da_cons de_int da_nil)))))) dv_nil)))) (by first | exact .inl rfl | exact .inr rfl))
  (dss_cons (ds_ret (DE.x (de_callTy call_tupleP (by rfl) T.m_tuple bt_tuple (dls_cons (DE.dl (DF.de (df_lc rfl sc__law_times.nd (DI.lo (di_rng1 (by rfl) T.m_range (da_cons (de_var 1) da_nil))) (blkOk_by (own := [("one", 3)]) (N := N__law_times) (sc := defScope s__law_times) (by decide +kernel)) (fun _ _ _ _ _ => (dg_name (i := 3) sc__law_times.nd rfl (by first | exact .inl rfl | exact .inr rfl) (by first | exact .inl rfl | exact .inr rfl))) (fun _ _ _ _ _ => dts_nil) (fun _ _ _ _ _ => (de_call G__law_draw mono__law_draw hr (by rfl) T.g__law_draw T.F__law_draw.kp T.b__law_draw pass0 (dv_hand (pv 0) (dv_cons (de_var 2) dv_nil)))) (by decide)))) dls_nil))))
  dss_nil)), ?_⟩
    rfl
  obtain ⟨t, h1, h2⟩ := h
  rw [← h2]
  exact h1
theorem wk__law_is_plan {P : Program} {w : World} {K : PySem.W.Frag} {mg : Str → Option Value} {base : Heap} (T : Txt K mg) {k : Nat}
  {S__law_is_integer : FSpec} (mono__law_is_integer : MonoF S__law_is_integer) (G__law_is_integer : FnG P w K mg base CX0 k T.f__law_is_integer T.d__law_is_integer P__law_is_integer (spD K false S__law_is_integer))
  (cdv : Value) (A : Around) (outer : List Env) (s : Shared) (H : Hp) (E : XK) (hr : RoomG k (A.deeper (envOfC "_law_is_plan" (defScope s__law_is_plan) s.heap.objs.size T.f__law_is_plan cdv))) :
  DSs (cxOf CX0 P w K mg base N__law_is_plan "_law_is_plan" (defScope s__law_is_plan) T.f__law_is_plan cdv A outer s H E).nox (defBody s__law_is_plan) (t__law_is_plan S__law_is_integer) := by
  have hu := hu64 hr
  have hu1 := hu1_ hr
  have h : ∃ t, DSs (cxOf CX0 P w K mg base N__law_is_plan "_law_is_plan" (defScope s__law_is_plan) T.f__law_is_plan cdv A outer s H E).nox (defBody s__law_is_plan) t ∧ t = t__law_is_plan S__law_is_integer := by
    refine ⟨_, (dss_cons (ds_if (DW.dt (dw_or (dt_not (dt_val (de_isa isa_tuple (dl_var 3) (by rfl) T.m_isinstance bt_isinstance (by rfl) T.m_tuple bt_tuple))) (dw_or (dt_cmp (op_neP hu) (DE.dl (de_callB call_lenP (by rfl) T.m_len bt_len (dls_cons (dl_var 3) dls_nil))) (DE.dl (de_callB call_lenP (by rfl) T.m_len bt_len (dls_cons (dl_var 0) dls_nil)))) (dw_or1 (dt_not (dt_val (de_callB (call_allP rfl) (by rfl) T.m_all bt_all (dls_cons (DE.dl (DF.de (df_lc rfl sc__law_is_plan.nd (di_seqL (dl_var 3)) (blkOk_by (own := [("one", 4)]) (N := N__law_is_plan) (sc := defScope s__law_is_plan) (by decide +kernel)) (fun _ _ _ _ _ => (dg_name (i := 4) sc__law_is_plan.nd rfl (by first | exact .inl rfl | exact .inr rfl) (by first | exact .inl rfl | exact .inr rfl))) (fun _ _ _ _ _ => dts_nil) (fun _ _ _ _ _ => (de_and (de_call G__law_is_integer mono__law_is_integer hr (by rfl) T.g__law_is_integer T.F__law_is_integer.kp T.b__law_is_integer pass0 (dv_cons (de_var 4) dv_nil)) (de_one (de_cmp (op_geP hu) (dl_var 4) (DE.dl de_int))))) (by decide)))) dls_nil)))))))) (dss_cons (ds_ret (DE.x de_bl))
  dss_nil) dss_nil)
  (dss_cons (ds_for PassesOwn.never rfl (di_enum (by rfl) T.m_enumerate (da_cons (de_var 0) da_nil)) (dg_tup (n := 2) rfl (dgs_cons (dg_name (i := 4) sc__law_is_plan.nd rfl (by first | exact .inl rfl | exact .inr rfl) (by first | exact .inl rfl | exact .inr rfl)) (dgs_cons (dg_name (i := 5) sc__law_is_plan.nd rfl (by first | exact .inl rfl | exact .inr rfl) (by first | exact .inl rfl | exact .inr rfl)) dgs_nil))) (dss_cons (ds_if (dt_val (de_callB (call_anyP rfl) (by rfl) T.m_any bt_any (dls_cons (DE.dl (DF.de (df_lc rfl sc__law_is_plan.nd (di_seqL (dl_var 5)) (blkOk_by (own := [("other", 6)]) (N := N__law_is_plan) (sc := defScope s__law_is_plan) (by decide +kernel)) (fun _ _ _ _ _ => (dg_name (i := 6) sc__law_is_plan.nd rfl (by first | exact .inl rfl | exact .inr rfl) (by first | exact .inl rfl | exact .inr rfl))) (fun _ _ _ _ _ => dts_nil) (fun _ _ _ _ _ => (de_cmp (op_gtP hu) (DE.dl (de_op op_addD (DE.dl (de_ix hu (dl_var 3) (dl_var 6))) (DE.dl (de_ix hu (dl_var 1) (dl_var 6))))) (DE.dl (de_ix hu (dl_var 3) (dl_var 4))))) (by decide)))) dls_nil))) (dss_cons (ds_ret (DE.x de_bl))
  dss_nil) dss_nil)
  dss_nil))
  (dss_cons (ds_for PassesOwn.never rfl (di_seq (de_var 3)) (dg_name (i := 7) sc__law_is_plan.nd rfl (by first | exact .inl rfl | exact .inr rfl) (by first | exact .inl rfl | exact .inr rfl)) (dss_cons (ds_setLc (i := 8) rfl sc__law_is_plan.nd rfl rfl (sw_true rfl rfl rfl (by decide +kernel)) (DI.lo (di_rng1 (by rfl) T.m_range (da_cons (de_callB call_lenP (by rfl) T.m_len bt_len (dls_cons (dl_var 0) dls_nil)) da_nil))) (blkOk_by (own := [("one", 4)]) (N := N__law_is_plan) (sc := defScope s__law_is_plan) (by decide +kernel)) (fun _ _ _ _ _ => (dg_name (i := 4) sc__law_is_plan.nd rfl (by first | exact .inl rfl | exact .inr rfl) (by first | exact .inl rfl | exact .inr rfl))) (fun _ _ _ _ _ => (dts_one (dt_chn (op_leP hu) (op_ltP hu) (DE.dl (de_ix hu (dl_var 3) (dl_var 4))) (dl_var 7) (DE.dl (de_op op_addD (DE.dl (de_ix hu (dl_var 3) (dl_var 4))) (DE.dl (de_ix hu (dl_var 1) (dl_var 4)))))))) (fun _ _ _ _ _ => (de_var 4)) (by decide))
  (dss_cons (ds_if (dt_cmp (op_gtP hu) (DE.dl (de_callB call_lenP (by rfl) T.m_len bt_len (dls_cons (dl_var 8) dls_nil))) (dl_var 2)) (dss_cons (ds_ret (DE.x de_bl))
  dss_nil) dss_nil)
  dss_nil)))
  (dss_cons (ds_ret (DE.x de_bl))
  dss_nil)))), ?_⟩
    rfl
  obtain ⟨t, h1, h2⟩ := h
  rw [← h2]
  exact h1
theorem wk__law_fits {P : Program} {w : World} {K : PySem.W.Frag} {mg : Str → Option Value} {base : Heap} (T : Txt K mg) {k : Nat}
  (cdv : Value) (A : Around) (outer : List Env) (s : Shared) (H : Hp) (E : XK) (hr : RoomG k (A.deeper (envOfC "_law_fits" (defScope s__law_fits) s.heap.objs.size T.f__law_fits cdv))) :
  DSs (cxOf CX0 P w K mg base N__law_fits "_law_fits" (defScope s__law_fits) T.f__law_fits cdv A outer s H E).nox (defBody s__law_fits) t__law_fits := by
  have hu := hu64 hr
  have hu1 := hu1_ hr
  have h : ∃ t, DSs (cxOf CX0 P w K mg base N__law_fits "_law_fits" (defScope s__law_fits) T.f__law_fits cdv A outer s H E).nox (defBody s__law_fits) t ∧ t = t__law_fits := by
    refine ⟨_, (dss_cons (ds_for PassesOwn.never rfl (di_seq (de_op op_addD (DE.dl (DF.de (df_lst (da_cons (de_var 3) da_nil)))) (DE.dl (DF.de (df_lcN rfl sc__law_fits.nd (pv 2) (blkOk_by (own := [("other", 6)]) (N := N__law_fits) (sc := defScope s__law_fits) (by decide +kernel)) (fun _ _ _ _ _ => (dg_name (i := 6) sc__law_fits.nd rfl (by first | exact .inl rfl | exact .inr rfl) (by first | exact .inl rfl | exact .inr rfl))) (fun _ _ _ _ _ => (dts_one (dt_chn (op_ltP hu) (op_ltP hu) (dl_var 3) (DE.dl (de_ix hu (dl_var 2) (dl_var 6))) (dl_var 4)))) (fun _ _ _ _ _ => (de_ix hu (dl_var 2) (dl_var 6))) (by decide)))))) (dg_name (i := 5) sc__law_fits.nd rfl (by first | exact .inl rfl | exact .inr rfl) (by first | exact .inl rfl | exact .inr rfl)) (dss_cons (ds_setLcN (j := 7) rfl sc__law_fits.nd rfl rfl (sw_true rfl rfl rfl (by decide +kernel)) (pv 2) (blkOk_by (own := [("other", 6)]) (N := N__law_fits) (sc := defScope s__law_fits) (by decide +kernel)) (fun _ _ _ _ _ => (dg_name (i := 6) sc__law_fits.nd rfl (by first | exact .inl rfl | exact .inr rfl) (by first | exact .inl rfl | exact .inr rfl))) (fun _ _ _ _ _ => (dts_one (dt_chn (op_leP hu) (op_ltP hu) (DE.dl (de_ix hu (dl_var 2) (dl_var 6))) (dl_var 5) (DE.dl (de_op op_addD (DE.dl (de_ix hu (dl_var 2) (dl_var 6))) (DE.dl (de_ix hu (dl_var 0) (dl_var 6)))))))) (fun _ _ _ _ _ => (de_var 6)) (by decide))
  (dss_cons (ds_if (DW.dt (dw_and (dt_cmp (op_ltP hu) (dl_var 3) (dl_var 4)) (dw_and1 (dt_cmp (op_geP hu) (DE.dl (de_callB call_lenP (by rfl) T.m_len bt_len (dls_cons (dl_var 7) dls_nil))) (dl_var 1))))) (dss_cons (ds_ret (DE.x de_bl))
  dss_nil) dss_nil)
  dss_nil)))
  (dss_cons (ds_ret (DE.x de_bl))
  dss_nil)), ?_⟩
    rfl
  obtain ⟨t, h1, h2⟩ := h
  rw [← h2]
  exact h1
theorem wk__law_in_turn {P : Program} {w : World} {K : PySem.W.Frag} {mg : Str → Option Value} {base : Heap} (T : Txt K mg) {k : Nat}
  {S__law_fits : FSpec} (mono__law_fits : MonoF S__law_fits) (G__law_fits : FnG P w K mg base CX0 k T.f__law_fits T.d__law_fits P__law_fits (spD K false S__law_fits))
  (cdv : Value) (A : Around) (outer : List Env) (s : Shared) (H : Hp) (E : XK) (hr : RoomG k (A.deeper (envOfC "_law_in_turn" (defScope s__law_in_turn) s.heap.objs.size T.f__law_in_turn cdv))) :
  DSs (cxOf CX0 P w K mg base N__law_in_turn "_law_in_turn" (defScope s__law_in_turn) T.f__law_in_turn cdv A outer s H E).nox (defBody s__law_in_turn) (t__law_in_turn S__law_fits) := by
  have hu := hu64 hr
  have hu1 := hu1_ hr
  have h : ∃ t, DSs (cxOf CX0 P w K mg base N__law_in_turn "_law_in_turn" (defScope s__law_in_turn) T.f__law_in_turn cdv A outer s H E).nox (defBody s__law_in_turn) t ∧ t = t__law_in_turn S__law_fits := by
    refine ⟨_, (dss_cons (ds_set (i := 4) sc__law_in_turn.nd rfl (DF.x df_dicK) (by first | exact .inl rfl | exact .inr rfl))
  (dss_cons (ds_for PassesOwn.never rfl (di_seq (de_var 3)) (dg_name (i := 5) sc__law_in_turn.nd rfl (by first | exact .inl rfl | exact .inr rfl) (by first | exact .inl rfl | exact .inr rfl)) (dss_cons (ds_set (i := 6) sc__law_in_turn.nd rfl (DE.x (de_callB (call_maxP rfl hu) (by rfl) T.m_max bt_max (dls_cons (DE.dl (de_op op_addD (DE.dl (DF.de (df_lst (da_cons de_int da_nil)))) (DE.dl (DF.de (df_lc rfl sc__law_in_turn.nd (DI.lo (di_seq (de_ix hu (dl_var 0) (dl_var 5)))) (blkOk_by (own := [("other", 7)]) (N := N__law_in_turn) (sc := defScope s__law_in_turn) (by decide +kernel)) (fun _ _ _ _ _ => (dg_name (i := 7) sc__law_in_turn.nd rfl (by first | exact .inl rfl | exact .inr rfl) (by first | exact .inl rfl | exact .inr rfl))) (fun _ _ _ _ _ => dts_nil) (fun _ _ _ _ _ => (de_op op_addD (DE.dl (de_ix hu (dl_var 4) (dl_var 7))) (DE.dl (de_ix hu (dl_var 1) (dl_var 7))))) (by decide)))))) dls_nil))) (by first | exact .inl rfl | exact .inr rfl))
  (dss_cons (ds_setLcN (j := 8) rfl sc__law_in_turn.nd rfl rfl (sw_true rfl rfl rfl (by decide +kernel)) (pv 4) (blkOk_by (own := [("other", 7)]) (N := N__law_in_turn) (sc := defScope s__law_in_turn) (by decide +kernel)) (fun _ _ _ _ _ => (dg_name (i := 7) sc__law_in_turn.nd rfl (by first | exact .inl rfl | exact .inr rfl) (by first | exact .inl rfl | exact .inr rfl))) (fun _ _ _ _ _ => dts_nil) (fun _ _ _ _ _ => (de_op op_addD (DE.dl (de_ix hu (dl_var 4) (dl_var 7))) (DE.dl (de_ix hu (dl_var 1) (dl_var 7))))) (by decide))
  (dss_cons (ds_set (i := 9) sc__law_in_turn.nd rfl (DE.x (DF.de (df_callB (call_sortedP hu) (by rfl) T.m_sorted bt_sorted (dls_cons (DE.dl (de_op op_addD (DE.dl (DF.de (df_lst (da_cons (de_var 6) da_nil)))) (DE.dl (DF.de (df_lc rfl sc__law_in_turn.nd (di_seqL (dl_var 8)) (blkOk_by (own := [("end", 10)]) (N := N__law_in_turn) (sc := defScope s__law_in_turn) (by decide +kernel)) (fun _ _ _ _ _ => (dg_name (i := 10) sc__law_in_turn.nd rfl (by first | exact .inl rfl | exact .inr rfl) (by first | exact .inl rfl | exact .inr rfl))) (fun _ _ _ _ _ => (dts_one (dt_cmp (op_gtP hu) (dl_var 10) (dl_var 6)))) (fun _ _ _ _ _ => (de_var 10)) (by decide)))))) dls_nil)))) (by first | exact .inl rfl | exact .inr rfl))
  (dss_cons (ds_for PassesOwn.never rfl (di_seq (de_var 9)) (dg_name (i := 11) sc__law_in_turn.nd rfl (by first | exact .inl rfl | exact .inr rfl) (by first | exact .inl rfl | exact .inr rfl)) (dss_cons (ds_if (DW.dt (dw_and (dt_cmp (op_notInP hu) (dl_var 5) (dl_var 4)) (dw_and1 (dt_val (de_callLook G__law_fits mono__law_fits hr (by rfl) T.g__law_fits T.F__law_fits.kp T.b__law_fits pass0 (dls_cons (dl_var 1) (dls_cons (dl_var 2) (dls_cons (dl_var 4) (dls_cons (dl_var 11) (dls_cons (DE.dl (de_op op_addD (dl_var 11) (DE.dl (de_ix hu (dl_var 1) (dl_var 5))))) dls_nil)))))))))) (dss_cons (ds_put hu1 (de_var 11) (pv 4) (de_var 5))
  dss_nil) dss_nil)
  dss_nil))
  dss_nil)))))
  (dss_cons (ds_ret (DE.x (de_callTy call_tupleP (by rfl) T.m_tuple bt_tuple (dls_cons (DE.dl (DF.de (df_lc rfl sc__law_in_turn.nd (DI.lo (di_rng1 (by rfl) T.m_range (da_cons (de_callB call_lenP (by rfl) T.m_len bt_len (dls_cons (dl_var 0) dls_nil)) da_nil))) (blkOk_by (own := [("one", 5)]) (N := N__law_in_turn) (sc := defScope s__law_in_turn) (by decide +kernel)) (fun _ _ _ _ _ => (dg_name (i := 5) sc__law_in_turn.nd rfl (by first | exact .inl rfl | exact .inr rfl) (by first | exact .inl rfl | exact .inr rfl))) (fun _ _ _ _ _ => dts_nil) (fun _ _ _ _ _ => (de_ix hu (dl_var 4) (dl_var 5))) (by decide)))) dls_nil))))
  dss_nil))), ?_⟩
    rfl
  obtain ⟨t, h1, h2⟩ := h
  rw [← h2]
  exact h1
theorem wk__law_end {P : Program} {w : World} {K : PySem.W.Frag} {mg : Str → Option Value} {base : Heap} (T : Txt K mg) {k : Nat}
  (cdv : Value) (A : Around) (outer : List Env) (s : Shared) (H : Hp) (E : XK) (hr : RoomG k (A.deeper (envOfC "_law_end" (defScope s__law_end) s.heap.objs.size T.f__law_end cdv))) :
  DSs (cxOf CX0 P w K mg base N__law_end "_law_end" (defScope s__law_end) T.f__law_end cdv A outer s H E).nox (defBody s__law_end) t__law_end := by
  have hu := hu64 hr
  have hu1 := hu1_ hr
  have h : ∃ t, DSs (cxOf CX0 P w K mg base N__law_end "_law_end" (defScope s__law_end) T.f__law_end cdv A outer s H E).nox (defBody s__law_end) t ∧ t = t__law_end := by
    refine ⟨_, (dss_cons (ds_ret (DE.x (de_callB (call_maxP rfl hu) (by rfl) T.m_max bt_max (dls_cons (DE.dl (DF.de (df_lc rfl sc__law_end.nd (DI.lo (di_zip (by rfl) T.m_zip (da_cons (de_var 1) (da_cons (de_var 0) da_nil)))) (blkOk_by (own := [("begin", 2), ("time", 3)]) (N := N__law_end) (sc := defScope s__law_end) (by decide +kernel)) (fun _ _ _ _ _ => (dg_tup (n := 2) rfl (dgs_cons (dg_name (i := 2) sc__law_end.nd rfl (by first | exact .inl rfl | exact .inr rfl) (by first | exact .inl rfl | exact .inr rfl)) (dgs_cons (dg_name (i := 3) sc__law_end.nd rfl (by first | exact .inl rfl | exact .inr rfl) (by first | exact .inl rfl | exact .inr rfl)) dgs_nil)))) (fun _ _ _ _ _ => dts_nil) (fun _ _ _ _ _ => (de_op op_addD (dl_var 2) (dl_var 3))) (by decide)))) dls_nil))))
  dss_nil), ?_⟩
    rfl
  obtain ⟨t, h1, h2⟩ := h
  rw [← h2]
  exact h1
theorem wk__law_all_orders {P : Program} {w : World} {K : PySem.W.Frag} {mg : Str → Option Value} {base : Heap} (T : Txt K mg) {k : Nat}
  (cdv : Value) (A : Around) (outer : List Env) (s : Shared) (H : Hp) (E : XK) (hr : RoomG k (A.deeper (envOfC "_law_all_orders" (defScope s__law_all_orders) s.heap.objs.size T.f__law_all_orders cdv))) :
  DSs (cxOf CX0 P w K mg base N__law_all_orders "_law_all_orders" (defScope s__law_all_orders) T.f__law_all_orders cdv A outer s H E).nox (defBody s__law_all_orders) t__law_all_orders := by
  have hu := hu64 hr
  have hu1 := hu1_ hr
  have h : ∃ t, DSs (cxOf CX0 P w K mg base N__law_all_orders "_law_all_orders" (defScope s__law_all_orders) T.f__law_all_orders cdv A outer s H E).nox (defBody s__law_all_orders) t ∧ t = t__law_all_orders := by
    refine ⟨_, (dss_cons (ds_set (i := 1) sc__law_all_orders.nd rfl (DE.x (DF.de (df_lst (da_cons (de_tup da_nil) da_nil)))) (by first | exact .inl rfl | exact .inr rfl))
  (dss_cons (ds_for PassesOwn.never rfl (di_rng1 (by rfl) T.m_range (da_cons (de_callB call_lenP (by rfl) T.m_len bt_len (dls_cons (dl_var 0) dls_nil)) da_nil)) (dg_name (i := 2) sc__law_all_orders.nd rfl (by first | exact .inl rfl | exact .inr rfl) (by first | exact .inl rfl | exact .inr rfl)) (dss_cons (ds_set (i := 3) sc__law_all_orders.nd rfl (DF.x (df_lst da_nil)) (by first | exact .inl rfl | exact .inr rfl))
  (dss_cons (ds_for PassesOwn.never rfl (di_seq (de_var 1)) (dg_name (i := 4) sc__law_all_orders.nd rfl (by first | exact .inl rfl | exact .inr rfl) (by first | exact .inl rfl | exact .inr rfl)) (dss_cons (ds_for PassesOwn.never rfl (di_rng1 (by rfl) T.m_range (da_cons (de_callB call_lenP (by rfl) T.m_len bt_len (dls_cons (dl_var 0) dls_nil)) da_nil)) (dg_name (i := 5) sc__law_all_orders.nd rfl (by first | exact .inl rfl | exact .inr rfl) (by first | exact .inl rfl | exact .inr rfl)) (dss_cons (ds_if (DW.dt (dw_and (dt_cmp (op_notInP hu) (dl_var 5) (dl_var 4)) (dw_and1 (dt_val (de_callB (call_allP rfl) (by rfl) T.m_all bt_all (dls_cons (DE.dl (DF.de (df_lc rfl sc__law_all_orders.nd (DI.lo (di_seq (de_ix hu (dl_var 0) (dl_var 5)))) (blkOk_by (own := [("other", 6)]) (N := N__law_all_orders) (sc := defScope s__law_all_orders) (by decide +kernel)) (fun _ _ _ _ _ => (dg_name (i := 6) sc__law_all_orders.nd rfl (by first | exact .inl rfl | exact .inr rfl) (by first | exact .inl rfl | exact .inr rfl))) (fun _ _ _ _ _ => dts_nil) (fun _ _ _ _ _ => (de_cmp (op_inP hu) (dl_var 6) (dl_var 4))) (by decide)))) dls_nil)))))) (dss_cons (ds_expr (de_append (pv 3) (de_op op_addD (dl_var 4) (DE.dl (de_tup (da_cons (de_var 5) da_nil))))))
  dss_nil) dss_nil)
  dss_nil))
  dss_nil))
  (dss_cons (ds_set (i := 1) sc__law_all_orders.nd rfl (DE.x (de_var 3)) (by first | exact .inl rfl | exact .inr rfl))
  dss_nil))))
  (dss_cons (ds_ret (DE.x (de_var 1)))
  dss_nil))), ?_⟩
    rfl
  obtain ⟨t, h1, h2⟩ := h
  rw [← h2]
  exact h1
theorem wk__law_drawn_order {P : Program} {w : World} {K : PySem.W.Frag} {mg : Str → Option Value} {base : Heap} (T : Txt K mg) {k : Nat}
  {S__law_any : FSpec} (mono__law_any : MonoF S__law_any) (G__law_any : FnG P w K mg base CX0 k T.f__law_any T.d__law_any P__law_any (spD K false S__law_any))
  (cdv : Value) (A : Around) (outer : List Env) (s : Shared) (H : Hp) (E : XK) (hr : RoomG k (A.deeper (envOfC "_law_drawn_order" (defScope s__law_drawn_order) s.heap.objs.size T.f__law_drawn_order cdv))) :
  DSs (cxOf CX0 P w K mg base N__law_drawn_order "_law_drawn_order" (defScope s__law_drawn_order) T.f__law_drawn_order cdv A outer s H E).nox (defBody s__law_drawn_order) (t__law_drawn_order S__law_any) := by
  have hu := hu64 hr
  have hu1 := hu1_ hr
  have h : ∃ t, DSs (cxOf CX0 P w K mg base N__law_drawn_order "_law_drawn_order" (defScope s__law_drawn_order) T.f__law_drawn_order cdv A outer s H E).nox (defBody s__law_drawn_order) t ∧ t = t__law_drawn_order S__law_any := by
    refine ⟨_, (dss_cons (ds_set (i := 2) sc__law_drawn_order.nd rfl (DF.x (df_lst da_nil)) (by first | exact .inl rfl | exact .inr rfl))
  (dss_cons (ds_for PassesOwn.never rfl (di_rng1 (by rfl) T.m_range (da_cons (de_callB call_lenP (by rfl) T.m_len bt_len (dls_cons (dl_var 1) dls_nil)) da_nil)) (dg_name (i := 3) sc__law_drawn_order.nd rfl (by first | exact .inl rfl | exact .inr rfl) (by first | exact .inl rfl | exact .inr rfl)) (dss_cons (ds_expr (de_append (pv 2) (de_call G__law_any mono__law_any hr (by rfl) T.g__law_any T.F__law_any.kp T.b__law_any pass0 (dv_hand (pv 0) (dv_cons (DF.de (df_lc rfl sc__law_drawn_order.nd (DI.lo (di_rng1 (by rfl) T.m_range (da_cons (de_callB call_lenP (by rfl) T.m_len bt_len (dls_cons (dl_var 1) dls_nil)) da_nil))) (blkOk_by (own := [("one", 4)]) (N := N__law_drawn_order) (sc := defScope s__law_drawn_order) (by decide +kernel)) (fun _ _ _ _ _ => (dg_name (i := 4) sc__law_drawn_order.nd rfl (by first | exact .inl rfl | exact .inr rfl) (by first | exact .inl rfl | exact .inr rfl))) (fun _ _ _ _ _ => (dts_one (DW.dt (dw_and (dt_cmp (op_notInP hu) (dl_var 4) (dl_var 2)) (dw_and1 (dt_val (de_callB (call_allP rfl) (by rfl) T.m_all bt_all (dls_cons (DE.dl (DF.de (df_lc rfl sc__law_drawn_order.nd (DI.lo (di_seq (de_ix hu (dl_var 1) (dl_var 4)))) (blkOk_by (own := [("other", 5)]) (N := N__law_drawn_order) (by kernel_rfl)) (fun _ _ _ _ _ => (dg_name (i := 5) sc__law_drawn_order.nd rfl (by first | exact .inl rfl | exact .inr rfl) (by first | exact .inl rfl | exact .inr rfl))) (fun _ _ _ _ _ => dts_nil) (fun _ _ _ _ _ => (de_cmp (op_inP hu) (dl_var 5) (dl_var 2))) (by decide)))) dls_nil)))))))) (fun _ _ _ _ _ => (de_var 4)) (by decide))) dv_nil)))))
  dss_nil))
  (dss_cons (ds_ret (DE.x (de_callTy call_tupleP (by rfl) T.m_tuple bt_tuple (dls_cons (dl_var 2) dls_nil))))
  dss_nil))), ?_⟩
    rfl
  obtain ⟨t, h1, h2⟩ := h
  rw [← h2]
  exact h1
theorem wk__law_bent {P : Program} {w : World} {K : PySem.W.Frag} {mg : Str → Option Value} {base : Heap} (T : Txt K mg) {k : Nat}
  {S__law_draw : FSpec} (mono__law_draw : MonoF S__law_draw) (G__law_draw : FnG P w K mg base CX0 k T.f__law_draw T.d__law_draw P__law_draw (spD K false S__law_draw))
  {S__law_any : FSpec} (mono__law_any : MonoF S__law_any) (G__law_any : FnG P w K mg base CX0 k T.f__law_any T.d__law_any P__law_any (spD K false S__law_any))
  (cdv : Value) (A : Around) (outer : List Env) (s : Shared) (H : Hp) (E : XK) (hr : RoomG k (A.deeper (envOfC "_law_bent" (defScope s__law_bent) s.heap.objs.size T.f__law_bent cdv))) :
  DSs (cxOf CX0 P w K mg base N__law_bent "_law_bent" (defScope s__law_bent) T.f__law_bent cdv A outer s H E).nox (defBody s__law_bent) (t__law_bent S__law_draw S__law_any) := by
  have hu := hu64 hr
  have hu1 := hu1_ hr
  have h : ∃ t, DSs (cxOf CX0 P w K mg base N__law_bent "_law_bent" (defScope s__law_bent) T.f__law_bent cdv A outer s H E).nox (defBody s__law_bent) t ∧ t = t__law_bent S__law_draw S__law_any := by
    refine ⟨_, (dss_cons (ds_set (i := 2) sc__law_bent.nd rfl (DE.x (de_call G__law_draw mono__law_draw hr (by rfl) T.g__law_draw T.F__law_draw.kp T.b__law_draw pass0 (dv_hand (pv 0) (dv_cons (de_callB call_lenP (by rfl) T.m_len bt_len (dls_cons (dl_var 1) dls_nil)) dv_nil)))) (by first | exact .inl rfl | exact .inr rfl))
  (dss_cons (ds_set (i := 3) sc__law_bent.nd rfl (DE.x (de_call G__law_any mono__law_any hr (by rfl) T.g__law_any T.F__law_any.kp T.b__law_any pass0 (dv_hand (pv 0) (dv_cons (DF.de (df_lst (da_cons (de_op op_addD (DE.dl (de_ix hu (dl_var 1) (dl_var 2))) (DE.dl de_int)) (da_cons (de_op op_addD (DE.dl (de_ix hu (dl_var 1) (dl_var 2))) (DE.dl de_int)) (da_cons (de_callB (call_max2P rfl) (by rfl) T.m_max bt_max (dls_cons (DE.dl de_int) (dls_cons (DE.dl (de_op op_subD (DE.dl (de_ix hu (dl_var 1) (dl_var 2))) (DE.dl de_int))) dls_nil))) (da_cons (de_callB (call_max2P rfl) (by rfl) T.m_max bt_max (dls_cons (DE.dl de_int) (dls_cons (DE.dl (de_op op_subD (DE.dl (de_ix hu (dl_var 1) (dl_var 2))) (DE.dl de_int))) dls_nil))) (da_cons de_int (da_cons (de_op op_addD (DE.dl (de_ix hu (dl_var 1) (dl_var 2))) (DE.dl de_int)) (da_cons (de_neg de_int) (da_cons de_bl (da_cons de_non (da_cons de_str da_nil)))))))))))) dv_nil)))) (by first | exact .inl rfl | exact .inr rfl))
  (dss_cons (ds_set (i := 4) sc__law_bent.nd rfl (DE.x (de_callTy call_tupleP (by rfl) T.m_tuple bt_tuple (dls_cons (DE.dl (DF.de (df_lc rfl sc__law_bent.nd (di_seqL (dl_var 1)) (blkOk_by (own := [("begin", 5)]) (N := N__law_bent) (sc := defScope s__law_bent) (by decide +kernel)) (fun _ _ _ _ _ => (dg_name (i := 5) sc__law_bent.nd rfl (by first | exact .inl rfl | exact .inr rfl) (by first | exact .inl rfl | exact .inr rfl))) (fun _ _ _ _ _ => dts_nil) (fun _ _ _ _ _ => (de_op op_addD (dl_var 5) (DE.dl de_int))) (by decide)))) dls_nil))) (by first | exact .inl rfl | exact .inr rfl))
  (dss_cons (ds_ret (DE.x (de_call G__law_any mono__law_any hr (by rfl) T.g__law_any T.F__law_any.kp T.b__law_any pass0 (dv_hand (pv 0) (dv_cons (de_op op_addD (DE.dl (de_op op_mulD (DE.dl (DF.de (df_lst (da_cons (de_op op_addD (DE.dl (de_op op_addD (DE.dl (de_slice (dl_var 1) do_none (do_some (de_var 2)))) (DE.dl (de_tup (da_cons (de_var 3) da_nil))))) (DE.dl (de_slice (dl_var 1) (do_some (de_op op_addD (dl_var 2) (DE.dl de_int))) do_none))) da_nil)))) (DE.dl de_int))) (DE.dl (DF.de (df_lst (da_cons (de_var 4) (da_cons (DF.de (df_callTy call_listP (by rfl) T.m_list bt_list (dls_cons (dl_var 1) dls_nil))) (da_cons (de_slice (dl_var 1) (do_some de_int) do_none) (da_cons (de_op op_addD (dl_var 1) (DE.dl (de_tup (da_cons de_int da_nil)))) (da_cons de_non (da_cons (de_tup da_nil) (da_cons (DF.de df_dicK) (da_cons (de_rev (dl_var 1)) da_nil)))))))))))) dv_nil)))))
  dss_nil)))), ?_⟩
    rfl
  obtain ⟨t, h1, h2⟩ := h
  rw [← h2]
  exact h1
theorem wk__law_are_plans_right {P : Program} {w : World} {K : PySem.W.Frag} {mg : Str → Option Value} {base : Heap} (T : Txt K mg) {k : Nat}
  {S_is_plan : FSpec} (mono_is_plan : MonoF S_is_plan) (G_is_plan : FnG P w K mg base CX0 k T.f_is_plan T.d_is_plan P_is_plan (spD K false S_is_plan))
  {S_in_turn : FSpec} (mono_in_turn : MonoF S_in_turn) (G_in_turn : FnG P w K mg base CX0 k T.f_in_turn T.d_in_turn P_in_turn (spD K false S_in_turn))
  {S__law_same : FSpec} (mono__law_same : MonoF S__law_same) (G__law_same : FnG P w K mg base CX0 k T.f__law_same T.d__law_same P__law_same (spD K false S__law_same))
  {S__law_is_plan : FSpec} (mono__law_is_plan : MonoF S__law_is_plan) (G__law_is_plan : FnG P w K mg base CX0 k T.f__law_is_plan T.d__law_is_plan P__law_is_plan (spD K false S__law_is_plan))
  {S__law_in_turn : FSpec} (mono__law_in_turn : MonoF S__law_in_turn) (G__law_in_turn : FnG P w K mg base CX0 k T.f__law_in_turn T.d__law_in_turn P__law_in_turn (spD K false S__law_in_turn))
  {S__law_drawn_order : FSpec} (mono__law_drawn_order : MonoF S__law_drawn_order) (G__law_drawn_order : FnG P w K mg base CX0 k T.f__law_drawn_order T.d__law_drawn_order P__law_drawn_order (spD K false S__law_drawn_order))
  {S__law_bent : FSpec} (mono__law_bent : MonoF S__law_bent) (G__law_bent : FnG P w K mg base CX0 k T.f__law_bent T.d__law_bent P__law_bent (spD K false S__law_bent))
  (cdv : Value) (A : Around) (outer : List Env) (s : Shared) (H : Hp) (E : XK) (hr : RoomG k (A.deeper (envOfC "_law_are_plans_right" (defScope s__law_are_plans_right) s.heap.objs.size T.f__law_are_plans_right cdv))) :
  DSs (cxOf CX0 P w K mg base N__law_are_plans_right "_law_are_plans_right" (defScope s__law_are_plans_right) T.f__law_are_plans_right cdv A outer s H E).nox (defBody s__law_are_plans_right) (t__law_are_plans_right S_is_plan S_in_turn S__law_same S__law_is_plan S__law_in_turn S__law_drawn_order S__law_bent) := by
  have hu := hu64 hr
  have hu1 := hu1_ hr
  have h : ∃ t, DSs (cxOf CX0 P w K mg base N__law_are_plans_right "_law_are_plans_right" (defScope s__law_are_plans_right) T.f__law_are_plans_right cdv A outer s H E).nox (defBody s__law_are_plans_right) t ∧ t = t__law_are_plans_right S_is_plan S_in_turn S__law_same S__law_is_plan S__law_in_turn S__law_drawn_order S__law_bent := by
    refine ⟨_, (dss_cons (ds_set (i := 4) sc__law_are_plans_right.nd rfl (DE.x (de_tup da_nil)) (by first | exact .inl rfl | exact .inr rfl))
  (dss_cons (ds_for PassesOwn.never rfl (di_rng1 (by rfl) T.m_range (da_cons de_int da_nil)) (dg_name (i := 5) sc__law_are_plans_right.nd rfl (by first | exact .inl rfl | exact .inr rfl) (by first | exact .inl rfl | exact .inr rfl)) (dss_cons (ds_set (i := 6) sc__law_are_plans_right.nd rfl (DE.x (de_call G__law_drawn_order mono__law_drawn_order hr (by rfl) T.g__law_drawn_order T.F__law_drawn_order.kp T.b__law_drawn_order pass0 (dv_hand (pv 0) (dv_cons (de_var 1) dv_nil)))) (by first | exact .inl rfl | exact .inr rfl))
  (dss_cons (ds_set (i := 4) sc__law_are_plans_right.nd rfl (DE.x (de_call G__law_in_turn mono__law_in_turn hr (by rfl) T.g__law_in_turn T.F__law_in_turn.kp T.b__law_in_turn pass0 (dv_cons (de_var 1) (dv_cons (de_var 2) (dv_cons (de_var 3) (dv_cons (de_var 6) dv_nil)))))) (by first | exact .inl rfl | exact .inr rfl))
  (dss_cons (ds_if (DW.dt (dw_or (dt_not (dt_val (de_call G__law_same mono__law_same hr (by rfl) T.g__law_same T.F__law_same.kp T.b__law_same pass0 (dv_cons (de_call G_in_turn mono_in_turn hr (by rfl) T.g_in_turn T.F_in_turn.kp T.b_in_turn pass0 (dv_cons (de_var 1) (dv_cons (de_var 2) (dv_cons (de_var 3) (dv_cons (de_var 6) dv_nil))))) (dv_cons (de_var 4) dv_nil))))) (dw_or1 (dt_not (dt_val (de_call G__law_is_plan mono__law_is_plan hr (by rfl) T.g__law_is_plan T.F__law_is_plan.kp T.b__law_is_plan pass0 (dv_cons (de_var 1) (dv_cons (de_var 2) (dv_cons (de_var 3) (dv_cons (de_var 4) dv_nil)))))))))) (dss_cons (ds_ret (DE.x de_non))
  dss_nil) dss_nil)
  (dss_cons (ds_for PassesOwn.never rfl (di_seq (de_op op_addD (DE.dl (DF.de (df_lst (da_cons (de_var 4) da_nil)))) (DE.dl (DF.de (df_lc rfl sc__law_are_plans_right.nd (DI.lo (di_rng1 (by rfl) T.m_range (da_cons de_int da_nil))) (blkOk_by (own := [("again", 8)]) (N := N__law_are_plans_right) (sc := defScope s__law_are_plans_right) (by decide +kernel)) (fun _ _ _ _ _ => (dg_name (i := 8) sc__law_are_plans_right.nd rfl (by first | exact .inl rfl | exact .inr rfl) (by first | exact .inl rfl | exact .inr rfl))) (fun _ _ _ _ _ => dts_nil) (fun _ _ _ _ _ => (de_call G__law_bent mono__law_bent hr (by rfl) T.g__law_bent T.F__law_bent.kp T.b__law_bent pass0 (dv_hand (pv 0) (dv_cons (de_var 4) dv_nil)))) (by decide)))))) (dg_name (i := 7) sc__law_are_plans_right.nd rfl (by first | exact .inl rfl | exact .inr rfl) (by first | exact .inl rfl | exact .inr rfl)) (dss_cons (ds_par2 (i := 9) (j := 10) rfl sc__law_are_plans_right.nd rfl rfl (dm_cons (DE.x (de_callB (call_reprP hr.g hu) (by rfl) T.m_repr bt_repr (dls_cons (dl_var 7) dls_nil))) (dm_cons (DE.x (de_call G__law_is_plan mono__law_is_plan hr (by rfl) T.g__law_is_plan T.F__law_is_plan.kp T.b__law_is_plan pass0 (dv_cons (de_var 1) (dv_cons (de_var 2) (dv_cons (de_var 3) (dv_cons (de_var 7) dv_nil)))))) dm_nil)))
  (dss_cons (ds_if (DW.dt (dw_or (dt_not (dt_val (de_call G__law_same mono__law_same hr (by rfl) T.g__law_same T.F__law_same.kp T.b__law_same pass0 (dv_cons (de_call G_is_plan mono_is_plan hr (by rfl) T.g_is_plan T.F_is_plan.kp T.b_is_plan pass0 (dv_cons (de_var 1) (dv_cons (de_var 2) (dv_cons (de_var 3) (dv_cons (de_var 7) dv_nil))))) (dv_cons (de_var 10) dv_nil))))) (dw_or1 (dt_cmp (op_neP hu) (DE.dl (de_callB (call_reprP hr.g hu) (by rfl) T.m_repr bt_repr (dls_cons (dl_var 7) dls_nil))) (dl_var 9))))) (dss_cons (ds_ret (DE.x de_non))
  dss_nil) dss_nil)
  dss_nil)))
  dss_nil)))))
  (dss_cons (ds_ret (DE.x (de_var 4)))
  dss_nil))), ?_⟩
    rfl
  obtain ⟨t, h1, h2⟩ := h
  rw [← h2]
  exact h1
theorem wk__law_is_least_right {P : Program} {w : World} {K : PySem.W.Frag} {mg : Str → Option Value} {base : Heap} (T : Txt K mg) {k : Nat}
  {S_ends_of : FSpec} (mono_ends_of : MonoF S_ends_of) (G_ends_of : FnG P w K mg base CX0 k T.f_ends_of T.d_ends_of P_ends_of (spD K false S_ends_of))
  {S_least_time : FSpec} (mono_least_time : MonoF S_least_time) (G_least_time : FnG P w K mg base CX0 k T.f_least_time T.d_least_time P_least_time (spD K false S_least_time))
  {S_is_least_time : FSpec} (mono_is_least_time : MonoF S_is_least_time) (G_is_least_time : FnG P w K mg base CX0 k T.f_is_least_time T.d_is_least_time P_is_least_time (spD K false S_is_least_time))
  {S__law_any : FSpec} (mono__law_any : MonoF S__law_any) (G__law_any : FnG P w K mg base CX0 k T.f__law_any T.d__law_any P__law_any (spD K false S__law_any))
  {S__law_same : FSpec} (mono__law_same : MonoF S__law_same) (G__law_same : FnG P w K mg base CX0 k T.f__law_same T.d__law_same P__law_same (spD K false S__law_same))
  {S__law_is_plan : FSpec} (mono__law_is_plan : MonoF S__law_is_plan) (G__law_is_plan : FnG P w K mg base CX0 k T.f__law_is_plan T.d__law_is_plan P__law_is_plan (spD K false S__law_is_plan))
  {S__law_in_turn : FSpec} (mono__law_in_turn : MonoF S__law_in_turn) (G__law_in_turn : FnG P w K mg base CX0 k T.f__law_in_turn T.d__law_in_turn P__law_in_turn (spD K false S__law_in_turn))
  {S__law_end : FSpec} (mono__law_end : MonoF S__law_end) (G__law_end : FnG P w K mg base CX0 k T.f__law_end T.d__law_end P__law_end (spD K false S__law_end))
  {S__law_all_orders : FSpec} (mono__law_all_orders : MonoF S__law_all_orders) (G__law_all_orders : FnG P w K mg base CX0 k T.f__law_all_orders T.d__law_all_orders P__law_all_orders (spD K false S__law_all_orders))
  {S__law_bent : FSpec} (mono__law_bent : MonoF S__law_bent) (G__law_bent : FnG P w K mg base CX0 k T.f__law_bent T.d__law_bent P__law_bent (spD K false S__law_bent))
  (cdv : Value) (A : Around) (outer : List Env) (s : Shared) (H : Hp) (E : XK) (hr : RoomG k (A.deeper (envOfC "_law_is_least_right" (defScope s__law_is_least_right) s.heap.objs.size T.f__law_is_least_right cdv))) :
  DSs (cxOf CX0 P w K mg base N__law_is_least_right "_law_is_least_right" (defScope s__law_is_least_right) T.f__law_is_least_right cdv A outer s H E).nox (defBody s__law_is_least_right) (t__law_is_least_right S_ends_of S_least_time S_is_least_time S__law_any S__law_same S__law_is_plan S__law_in_turn S__law_end S__law_all_orders S__law_bent) := by
  have hu := hu64 hr
  have hu1 := hu1_ hr
  have h : ∃ t, DSs (cxOf CX0 P w K mg base N__law_is_least_right "_law_is_least_right" (defScope s__law_is_least_right) T.f__law_is_least_right cdv A outer s H E).nox (defBody s__law_is_least_right) t ∧ t = t__law_is_least_right S_ends_of S_least_time S_is_least_time S__law_any S__law_same S__law_is_plan S__law_in_turn S__law_end S__law_all_orders S__law_bent := by
    refine ⟨_, (dss_cons (ds_set (i := 5) sc__law_is_least_right.nd rfl (DE.x (de_callB (call_minP rfl hu) (by rfl) T.m_min bt_min (dls_cons (DE.dl (DF.de (df_lc rfl sc__law_is_least_right.nd (DI.lo (di_seq (de_call G__law_all_orders mono__law_all_orders hr (by rfl) T.g__law_all_orders T.F__law_all_orders.kp T.b__law_all_orders pass0 (dv_cons (de_var 1) dv_nil)))) (blkOk_by (own := [("order", 6)]) (N := N__law_is_least_right) (sc := defScope s__law_is_least_right) (by decide +kernel)) (fun _ _ _ _ _ => (dg_name (i := 6) sc__law_is_least_right.nd rfl (by first | exact .inl rfl | exact .inr rfl) (by first | exact .inl rfl | exact .inr rfl))) (fun _ _ _ _ _ => dts_nil) (fun _ _ _ _ _ => (de_call G__law_end mono__law_end hr (by rfl) T.g__law_end T.F__law_end.kp T.b__law_end pass0 (dv_cons (de_var 2) (dv_cons (de_call G__law_in_turn mono__law_in_turn hr (by rfl) T.g__law_in_turn T.F__law_in_turn.kp T.b__law_in_turn pass0 (dv_cons (de_var 1) (dv_cons (de_var 2) (dv_cons (de_var 3) (dv_cons (de_var 6) dv_nil))))) dv_nil)))) (by decide)))) dls_nil))) (by first | exact .inl rfl | exact .inr rfl))
  (dss_cons (ds_set (i := 7) sc__law_is_least_right.nd rfl (DE.x (de_call G_least_time mono_least_time hr (by rfl) T.g_least_time T.F_least_time.kp T.b_least_time pass0 (dv_cons (de_var 1) (dv_cons (de_var 2) (dv_cons (de_var 3) dv_nil))))) (by first | exact .inl rfl | exact .inr rfl))
  (dss_cons (ds_if (DW.dt (dw_or (dt_not (dt_val (de_isa isa_tuple (dl_var 7) (by rfl) T.m_isinstance bt_isinstance (by rfl) T.m_tuple bt_tuple))) (dw_or (dt_cmp (op_neP hu) (DE.dl (de_callB call_lenP (by rfl) T.m_len bt_len (dls_cons (dl_var 7) dls_nil))) (DE.dl de_int)) (dw_or1 (dt_not (dt_val (de_call G__law_same mono__law_same hr (by rfl) T.g__law_same T.F__law_same.kp T.b__law_same pass0 (dv_cons (de_ix hu (dl_var 7) (DE.dl de_int)) (dv_cons (de_var 5) dv_nil))))))))) (dss_cons (ds_ret (DE.x de_bl))
  dss_nil) dss_nil)
  (dss_cons (ds_if (DW.dt (dw_or (dt_not (dt_val (de_call G__law_is_plan mono__law_is_plan hr (by rfl) T.g__law_is_plan T.F__law_is_plan.kp T.b__law_is_plan pass0 (dv_cons (de_var 1) (dv_cons (de_var 2) (dv_cons (de_var 3) (dv_cons (de_ix hu (dl_var 7) (DE.dl de_int)) dv_nil))))))) (dw_or1 (dt_cmp (op_neP hu) (DE.dl (de_call G__law_end mono__law_end hr (by rfl) T.g__law_end T.F__law_end.kp T.b__law_end pass0 (dv_cons (de_var 2) (dv_cons (de_ix hu (dl_var 7) (DE.dl de_int)) dv_nil)))) (dl_var 5))))) (dss_cons (ds_ret (DE.x de_bl))
  dss_nil) dss_nil)
  (dss_cons (ds_if (DW.dt (dw_or (dt_cmp (op_ltP hu) (dl_var 5) (DE.dl (de_callB (call_maxP rfl hu) (by rfl) T.m_max bt_max (dls_cons (DE.dl (de_call G_ends_of mono_ends_of hr (by rfl) T.g_ends_of T.F_ends_of.kp T.b_ends_of pass0 (dv_cons (de_var 1) (dv_cons (de_var 2) dv_nil)))) dls_nil)))) (dw_or (dt_cmp (op_ltP hu) (DE.dl (de_op op_mulD (dl_var 5) (dl_var 3))) (DE.dl (de_callB (call_sumP rfl) (by rfl) T.m_sum bt_sum (dls_cons (dl_var 2) dls_nil)))) (dw_or1 (DW.dt (dw_and (dt_cmp (op_ltP hu) (dl_var 3) (DE.dl de_int)) (dw_and1 (dt_cmp (op_gtP hu) (DE.dl (de_ix hu (DE.dl (de_call G_least_time mono_least_time hr (by rfl) T.g_least_time T.F_least_time.kp T.b_least_time pass0 (dv_cons (de_var 1) (dv_cons (de_var 2) (dv_cons (de_op op_addD (dl_var 3) (DE.dl de_int)) dv_nil))))) (DE.dl de_int))) (dl_var 5))))))))) (dss_cons (ds_ret (DE.x de_bl))
  dss_nil) dss_nil)
  (dss_cons (ds_if (DW.dt (dw_and (dt_cmp (op_leP hu) (DE.dl (de_callB call_lenP (by rfl) T.m_len bt_len (dls_cons (dl_var 1) dls_nil))) (dl_var 3)) (dw_and1 (dt_cmp (op_neP hu) (dl_var 5) (DE.dl (de_callB (call_maxP rfl hu) (by rfl) T.m_max bt_max (dls_cons (DE.dl (de_call G_ends_of mono_ends_of hr (by rfl) T.g_ends_of T.F_ends_of.kp T.b_ends_of pass0 (dv_cons (de_var 1) (dv_cons (de_var 2) dv_nil)))) dls_nil))))))) (dss_cons (ds_ret (DE.x de_bl))
  dss_nil) dss_nil)
  (dss_cons (ds_set (i := 8) sc__law_is_least_right.nd rfl (DE.x (DF.de (df_lst (da_cons (de_var 7) (da_cons (de_tup (da_cons (de_call G__law_end mono__law_end hr (by rfl) T.g__law_end T.F__law_end.kp T.b__law_end pass0 (dv_cons (de_var 2) (dv_cons (de_var 4) dv_nil))) (da_cons (de_var 4) da_nil))) (da_cons (de_tup (da_cons (de_var 5) (da_cons (de_var 4) da_nil))) (da_cons (de_tup (da_cons (de_var 5) (da_cons (de_call G__law_bent mono__law_bent hr (by rfl) T.g__law_bent T.F__law_bent.kp T.b__law_bent pass0 (dv_hand (pv 0) (dv_cons (de_ix hu (dl_var 7) (DE.dl de_int)) dv_nil))) da_nil))) (da_cons (de_tup (da_cons (de_op op_addD (dl_var 5) (DE.dl de_int)) (da_cons (de_ix hu (dl_var 7) (DE.dl de_int)) da_nil))) (da_cons (DF.de (df_callTy call_listP (by rfl) T.m_list bt_list (dls_cons (dl_var 7) dls_nil))) (da_cons (de_tup (da_cons (de_var 5) da_nil)) da_nil)))))))))) (by first | exact .inl rfl | exact .inr rfl))
  (dss_cons (ds_set (i := 8) sc__law_is_least_right.nd rfl (DE.x (de_op op_addD (dl_var 8) (DE.dl (DF.de (df_lst (da_cons (de_tup (da_cons (de_var 5) (da_cons (de_ix hu (dl_var 7) (DE.dl de_int)) (da_cons de_int da_nil)))) (da_cons (de_rev (dl_var 7)) (da_cons de_non (da_cons (de_tup da_nil) (da_cons (DF.de df_dicK) (da_cons (de_tup (da_cons (de_var 5) (da_cons (DF.de (df_callTy call_listP (by rfl) T.m_list bt_list (dls_cons (DE.dl (de_ix hu (dl_var 7) (DE.dl de_int))) dls_nil))) da_nil))) (da_cons (de_tup (da_cons (de_callTy call_strP (by rfl) T.m_str bt_str (dls_cons (dl_var 5) dls_nil)) (da_cons (de_ix hu (dl_var 7) (DE.dl de_int)) da_nil))) (da_cons (de_tup (da_cons (de_op op_subD (dl_var 5) (DE.dl de_int)) (da_cons (de_ix hu (dl_var 7) (DE.dl de_int)) da_nil))) da_nil))))))))))))) (by first | exact .inl rfl | exact .inr rfl))
  (dss_cons (ds_for PassesOwn.never rfl (di_seq (de_op op_addD (DE.dl (DF.de (df_lc rfl sc__law_is_least_right.nd (DI.lo (di_rng1 (by rfl) T.m_range (da_cons de_int da_nil))) (blkOk_by (own := [("lap", 10)]) (N := N__law_is_least_right) (sc := defScope s__law_is_least_right) (by decide +kernel)) (fun _ _ _ _ _ => (dg_name (i := 10) sc__law_is_least_right.nd rfl (by first | exact .inl rfl | exact .inr rfl) (by first | exact .inl rfl | exact .inr rfl))) (fun _ _ _ _ _ => dts_nil) (fun _ _ _ _ _ => (de_call G__law_any mono__law_any hr (by rfl) T.g__law_any T.F__law_any.kp T.b__law_any pass0 (dv_hand (pv 0) (dv_cons (de_var 8) dv_nil)))) (by decide)))) (DE.dl (DF.de (df_lst (da_cons (de_var 7) da_nil)))))) (dg_name (i := 9) sc__law_is_least_right.nd rfl (by first | exact .inl rfl | exact .inr rfl) (by first | exact .inl rfl | exact .inr rfl)) (dss_cons (ds_set (i := 11) sc__law_is_least_right.nd rfl (DE.x (de_and (de_isa isa_tuple (dl_var 9) (by rfl) T.m_isinstance bt_isinstance (by rfl) T.m_tuple bt_tuple) (de_and (de_cmp (op_eqP hu) (DE.dl (de_callB call_lenP (by rfl) T.m_len bt_len (dls_cons (dl_var 9) dls_nil))) (DE.dl de_int)) (de_one (de_call G__law_same mono__law_same hr (by rfl) T.g__law_same T.F__law_same.kp T.b__law_same pass0 (dv_cons (de_ix hu (dl_var 9) (DE.dl de_int)) (dv_cons (de_var 5) dv_nil))))))) (by first | exact .inl rfl | exact .inr rfl))
  (dss_cons (ds_set (i := 11) sc__law_is_least_right.nd rfl (DE.x (de_and (de_var 11) (de_and (de_call G__law_is_plan mono__law_is_plan hr (by rfl) T.g__law_is_plan T.F__law_is_plan.kp T.b__law_is_plan pass0 (dv_cons (de_var 1) (dv_cons (de_var 2) (dv_cons (de_var 3) (dv_cons (de_ix hu (dl_var 9) (DE.dl de_int)) dv_nil))))) (de_one (de_cmp (op_eqP hu) (DE.dl (de_call G__law_end mono__law_end hr (by rfl) T.g__law_end T.F__law_end.kp T.b__law_end pass0 (dv_cons (de_var 2) (dv_cons (de_ix hu (dl_var 9) (DE.dl de_int)) dv_nil)))) (dl_var 5)))))) (by first | exact .inl rfl | exact .inr rfl))
  (dss_cons (ds_if (dt_not (dt_val (de_call G__law_same mono__law_same hr (by rfl) T.g__law_same T.F__law_same.kp T.b__law_same pass0 (dv_cons (de_call G_is_least_time mono_is_least_time hr (by rfl) T.g_is_least_time T.F_is_least_time.kp T.b_is_least_time pass0 (dv_cons (de_var 1) (dv_cons (de_var 2) (dv_cons (de_var 3) (dv_cons (de_var 9) dv_nil))))) (dv_cons (de_var 11) dv_nil))))) (dss_cons (ds_ret (DE.x de_bl))
  dss_nil) dss_nil)
  dss_nil))))
  (dss_cons (ds_ret (DE.x de_bl))
  dss_nil)))))))))), ?_⟩
    rfl
  obtain ⟨t, h1, h2⟩ := h
  rw [← h2]
  exact h1
end Lw
end
section
set_option Elab.async false
set_option linter.all false
set_option maxRecDepth 100000
set_option maxHeartbeats 4000000
open PySem PySem.Spec PyProof.Rows L2 PD
namespace Lw
def t_law (S_is_plan S_in_turn S_least_time S__law_draw S__law_any S__law_same S__law_round_free S__law_times S__law_are_plans_right S__law_is_least_right : FSpec) : PTS :=
  (tSq (tUp (tTp (tCn (tTp (tCn (tTp tNl) (tCn (tTp (tCn (tK (.int 0)) tNl)) (tCn (tTp (tCn (tK (.int 0)) tNl)) (tCn (tTp (tCn (tK (.int 1)) (tCn (tK (.int 2)) tNl))) tNl))))) (tCn (tTp (tCn (tK (.int 1)) (tCn (tK (.int 2)) (tCn (tK (.int 3)) (tCn (tK (.int 1)) tNl))))) tNl))) (gTu 2 (gCo (gN 2) (gCo (gN 3) gNi))))
  (tSq (tIfc (tOr (tBo (tBin neD (tOf (tComp (tWk (tTp (tCn (tK (.int 1)) (tCn (tK (.int 2)) tNl)))) (gN 4) tYs (tBin ixD (tOf (tFn S_least_time (tCnV (tVr 2) (tCnV (tVr 3) (tCnV (tVr 4) tNlV))))) (tOf (tK (.int 0)))) [4])) (tOf (tLs (tCn (tK (.int 7)) (tCn (tK (.int 5)) tNl)))))) (tNt (tBo (tFn S__law_same (tCnV (tFn S_in_turn (tCnV (tTp (tCn (tTp tNl) (tCn (tTp tNl) (tCn (tTp tNl) tNl)))) (tCnV (tTp (tCn (tK (.int 2)) (tCn (tK (.int 1)) (tCn (tK (.int 1)) tNl)))) (tCnV (tK (.int 2)) (tCnV (tTp (tCn (tK (.int 0)) (tCn (tK (.int 1)) (tCn (tK (.int 2)) tNl)))) tNlV))))) (tCnV (tTp (tCn (tK (.int 0)) (tCn (tK (.int 0)) (tCn (tK (.int 1)) tNl)))) tNlV)))))) (tSq (tRt false (tK (.bool false)))
  tNx) tNx)
  (tSq (tIfc (tBo (tBin neD (tOf (tLs (tCn (tFn S_is_plan (tCnV (tTp (tCn (tTp tNl) (tCn (tTp tNl) tNl))) (tCnV (tTp (tCn (tK (.int 1)) (tCn (tK (.int 1)) tNl))) (tCnV (tK (.int 1)) (tCnV (tTp (tCn (tK (.int 0)) (tCn (tK (.int 0)) tNl))) tNlV))))) (tCn (tFn S_is_plan (tCnV (tTp (tCn (tTp tNl) (tCn (tTp tNl) tNl))) (tCnV (tTp (tCn (tK (.int 1)) (tCn (tK (.int 0)) tNl))) (tCnV (tK (.int 1)) (tCnV (tTp (tCn (tK (.int 0)) (tCn (tK (.int 0)) tNl))) tNlV))))) (tCn (tFn S_is_plan (tCnV (tTp (tCn (tTp tNl) (tCn (tTp (tCn (tK (.int 0)) tNl)) tNl))) (tCnV (tTp (tCn (tK (.int 2)) (tCn (tK (.int 0)) tNl))) (tCnV (tK (.int 1)) (tCnV (tTp (tCn (tK (.int 0)) (tCn (tK (.int 1)) tNl))) tNlV))))) tNl))))) (tOf (tLs (tCn (tK (.bool false)) (tCn (tK (.bool true)) (tCn (tK (.bool false)) tNl))))))) (tSq (tRt false (tK (.bool false)))
  tNx) tNx)
  (tSq (tFo (tRg1 (tCn (tK (.int 3)) tNl)) (gN 5) (tSq (tAs false (tFn S__law_round_free (tCnH 1 (tCnV (tFn S__law_any (tCnH 1 (tCnV (tLs (tCn (tK (.int 4)) (tCn (tK (.int 5)) (tCn (tK (.int 5)) (tCn (tK (.int 9)) tNl))))) tNlV))) tNlV))) 2)
  (tSq (tUp (tTp (tCn (tFn S__law_times (tCnH 1 (tCnV (tCl lenD (tCnL (tSl 2) tNlL)) tNlV))) (tCn (tBin addD (tOf (tK (.int 1))) (tOf (tFn S__law_draw (tCnH 1 (tCnV (tK (.int 4)) tNlV))))) tNl))) (gTu 2 (gCo (gN 3) (gCo (gN 4) gNi))))
  (tSq (tAs false (tFn S__law_are_plans_right (tCnH 1 (tCnV (tVr 2) (tCnV (tVr 3) (tCnV (tVr 4) tNlV))))) 6)
  (tSq (tIfc (tOr (tBo (tBin isD (tSl 6) (tOf (tK .none)))) (tAn (tBo (tBin ltD (tOf (tCl lenD (tCnL (tSl 2) tNlL))) (tOf (tK (.int 6))))) (tNt (tBo (tFn S__law_is_least_right (tCnH 1 (tCnV (tVr 2) (tCnV (tVr 3) (tCnV (tVr 4) (tCnV (tVr 6) tNlV)))))))))) (tSq (tRt false (tK (.bool false)))
  tNx) tNx)
  tNx)))))
  (tSq (tRt false (tK (.bool true)))
  tNx)))))
theorem wk_law {P : Program} {w : World} {K : PySem.W.Frag} {mg : Str → Option Value} {base : Heap} (T : Txt K mg) {k : Nat}
  {S_is_plan : FSpec} (mono_is_plan : MonoF S_is_plan) (G_is_plan : FnG P w K mg base CX0 k T.f_is_plan T.d_is_plan P_is_plan (spD K false S_is_plan))
  {S_in_turn : FSpec} (mono_in_turn : MonoF S_in_turn) (G_in_turn : FnG P w K mg base CX0 k T.f_in_turn T.d_in_turn P_in_turn (spD K false S_in_turn))
  {S_least_time : FSpec} (mono_least_time : MonoF S_least_time) (G_least_time : FnG P w K mg base CX0 k T.f_least_time T.d_least_time P_least_time (spD K false S_least_time))
  {S__law_draw : FSpec} (mono__law_draw : MonoF S__law_draw) (G__law_draw : FnG P w K mg base CX0 k T.f__law_draw T.d__law_draw P__law_draw (spD K false S__law_draw))
  {S__law_any : FSpec} (mono__law_any : MonoF S__law_any) (G__law_any : FnG P w K mg base CX0 k T.f__law_any T.d__law_any P__law_any (spD K false S__law_any))
  {S__law_same : FSpec} (mono__law_same : MonoF S__law_same) (G__law_same : FnG P w K mg base CX0 k T.f__law_same T.d__law_same P__law_same (spD K false S__law_same))
  {S__law_round_free : FSpec} (mono__law_round_free : MonoF S__law_round_free) (G__law_round_free : FnG P w K mg base CX0 k T.f__law_round_free T.d__law_round_free P__law_round_free (spD K false S__law_round_free))
  {S__law_times : FSpec} (mono__law_times : MonoF S__law_times) (G__law_times : FnG P w K mg base CX0 k T.f__law_times T.d__law_times P__law_times (spD K false S__law_times))
  {S__law_are_plans_right : FSpec} (mono__law_are_plans_right : MonoF S__law_are_plans_right) (G__law_are_plans_right : FnG P w K mg base CX0 k T.f__law_are_plans_right T.d__law_are_plans_right P__law_are_plans_right (spD K false S__law_are_plans_right))
  {S__law_is_least_right : FSpec} (mono__law_is_least_right : MonoF S__law_is_least_right) (G__law_is_least_right : FnG P w K mg base CX0 k T.f__law_is_least_right T.d__law_is_least_right P__law_is_least_right (spD K false S__law_is_least_right))
  (cdv : Value) (A : Around) (outer : List Env) (s : Shared) (H : Hp) (E : XK) (hr : RoomG k (A.deeper (envOfC "law" (defScope s_law) s.heap.objs.size T.f_law cdv))) :
  DSs (cxOf CX0 P w K mg base N_law "law" (defScope s_law) T.f_law cdv A outer s H E).nox ((defBody s_law).drop 1) (t_law S_is_plan S_in_turn S_least_time S__law_draw S__law_any S__law_same S__law_round_free S__law_times S__law_are_plans_right S__law_is_least_right) := by
  have hu := hu64 hr
  have hu1 := hu1_ hr
  have h : ∃ t, DSs (cxOf CX0 P w K mg base N_law "law" (defScope s_law) T.f_law cdv A outer s H E).nox ((defBody s_law).drop 1) t ∧ t = t_law S_is_plan S_in_turn S_least_time S__law_draw S__law_any S__law_same S__law_round_free S__law_times S__law_are_plans_right S__law_is_least_right := by
    refine ⟨_, (dss_cons (ds_unp (de_tup (da_cons (de_tup (da_cons (de_tup da_nil) (da_cons (de_tup (da_cons de_int da_nil)) (da_cons (de_tup (da_cons de_int da_nil)) (da_cons (de_tup (da_cons de_int (da_cons de_int da_nil))) da_nil))))) (da_cons (de_tup (da_cons de_int (da_cons de_int (da_cons de_int (da_cons de_int da_nil))))) da_nil))) (dg_tup (n := 2) rfl (dgs_cons (dg_name (i := 2) sc_law.nd rfl (by first | exact .inl rfl | exact .inr rfl) (by first | exact .inl rfl | exact .inr rfl)) (dgs_cons (dg_name (i := 3) sc_law.nd rfl (by first | exact .inl rfl | exact .inr rfl) (by first | exact .inl rfl | exact .inr rfl)) dgs_nil))))
  (dss_cons (ds_if (DW.dt (dw_or (dt_cmp (op_neP hu) (DE.dl (DF.de (df_lc rfl sc_law.nd (DI.lo (di_seq (de_tup (da_cons de_int (da_cons de_int da_nil))))) (blkOk_by (own := [("hands", 4)]) (N := N_law) (sc := defScope s_law) (by decide +kernel)) (fun _ _ _ _ _ => (dg_name (i := 4) sc_law.nd rfl (by first | exact .inl rfl | exact .inr rfl) (by first | exact .inl rfl | exact .inr rfl))) (fun _ _ _ _ _ => dts_nil) (fun _ _ _ _ _ => (de_ix hu (DE.dl (de_call G_least_time mono_least_time hr (by rfl) T.g_least_time T.F_least_time.kp T.b_least_time pass0 (dv_cons (de_var 2) (dv_cons (de_var 3) (dv_cons (de_var 4) dv_nil))))) (DE.dl de_int))) (by decide)))) (DE.dl (DF.de (df_lst (da_cons de_int (da_cons de_int da_nil)))))) (dw_or1 (dt_not (dt_val (de_call G__law_same mono__law_same hr (by rfl) T.g__law_same T.F__law_same.kp T.b__law_same pass0 (dv_cons (de_call G_in_turn mono_in_turn hr (by rfl) T.g_in_turn T.F_in_turn.kp T.b_in_turn pass0 (dv_cons (de_tup (da_cons (de_tup da_nil) (da_cons (de_tup da_nil) (da_cons (de_tup da_nil) da_nil)))) (dv_cons (de_tup (da_cons de_int (da_cons de_int (da_cons de_int da_nil)))) (dv_cons de_int (dv_cons (de_tup (da_cons de_int (da_cons de_int (da_cons de_int da_nil)))) dv_nil))))) (dv_cons (de_tup (da_cons de_int (da_cons de_int (da_cons de_int da_nil)))) dv_nil)))))))) (dss_cons (ds_ret (DE.x de_bl))
  dss_nil) dss_nil)
  (dss_cons (ds_if (dt_cmp (op_neP hu) (DE.dl (DF.de (df_lst (da_cons (de_call G_is_plan mono_is_plan hr (by rfl) T.g_is_plan T.F_is_plan.kp T.b_is_plan pass0 (dv_cons (de_tup (da_cons (de_tup da_nil) (da_cons (de_tup da_nil) da_nil))) (dv_cons (de_tup (da_cons de_int (da_cons de_int da_nil))) (dv_cons de_int (dv_cons (de_tup (da_cons de_int (da_cons de_int da_nil))) dv_nil))))) (da_cons (de_call G_is_plan mono_is_plan hr (by rfl) T.g_is_plan T.F_is_plan.kp T.b_is_plan pass0 (dv_cons (de_tup (da_cons (de_tup da_nil) (da_cons (de_tup da_nil) da_nil))) (dv_cons (de_tup (da_cons de_int (da_cons de_int da_nil))) (dv_cons de_int (dv_cons (de_tup (da_cons de_int (da_cons de_int da_nil))) dv_nil))))) (da_cons (de_call G_is_plan mono_is_plan hr (by rfl) T.g_is_plan T.F_is_plan.kp T.b_is_plan pass0 (dv_cons (de_tup (da_cons (de_tup da_nil) (da_cons (de_tup (da_cons de_int da_nil)) da_nil))) (dv_cons (de_tup (da_cons de_int (da_cons de_int da_nil))) (dv_cons de_int (dv_cons (de_tup (da_cons de_int (da_cons de_int da_nil))) dv_nil))))) da_nil)))))) (DE.dl (DF.de (df_lst (da_cons de_bl (da_cons de_bl (da_cons de_bl da_nil))))))) (dss_cons (ds_ret (DE.x de_bl))
  dss_nil) dss_nil)
  (dss_cons (ds_for PassesOwn.never rfl (di_rng1 (by rfl) T.m_range (da_cons de_int da_nil)) (dg_name (i := 5) sc_law.nd rfl (by first | exact .inl rfl | exact .inr rfl) (by first | exact .inl rfl | exact .inr rfl)) (dss_cons (ds_set (i := 2) sc_law.nd rfl (DE.x (de_call G__law_round_free mono__law_round_free hr (by rfl) T.g__law_round_free T.F__law_round_free.kp T.b__law_round_free pass0 (dv_hand (pv 1) (dv_cons (de_call G__law_any mono__law_any hr (by rfl) T.g__law_any T.F__law_any.kp T.b__law_any pass0 (dv_hand (pv 1) (dv_cons (DF.de (df_lst (da_cons de_int (da_cons de_int (da_cons de_int (da_cons de_int da_nil)))))) dv_nil))) dv_nil)))) (by first | exact .inl rfl | exact .inr rfl))
  (dss_cons (ds_unp (de_tup (da_cons (de_call G__law_times mono__law_times hr (by rfl) T.g__law_times T.F__law_times.kp T.b__law_times pass0 (dv_hand (pv 1) (dv_cons (de_callB call_lenP (by rfl) T.m_len bt_len (dls_cons (dl_var 2) dls_nil)) dv_nil))) (da_cons (de_op op_addD (DE.dl de_int) (DE.dl (de_call G__law_draw mono__law_draw hr (by rfl) T.g__law_draw T.F__law_draw.kp T.b__law_draw pass0 (dv_hand (pv 1) (dv_cons de_int dv_nil))))) da_nil))) (dg_tup (n := 2) rfl (dgs_cons (dg_name (i := 3) sc_law.nd rfl (by first | exact .inl rfl | exact .inr rfl) (by first | exact .inl rfl | exact .inr rfl)) (dgs_cons (dg_name (i := 4) sc_law.nd rfl (by first | exact .inl rfl | exact .inr rfl) (by first | exact .inl rfl | exact .inr rfl)) dgs_nil))))
  (dss_cons (ds_set (i := 6) sc_law.nd rfl (DE.x (de_call G__law_are_plans_right mono__law_are_plans_right hr (by rfl) T.g__law_are_plans_right T.F__law_are_plans_right.kp T.b__law_are_plans_right pass0 (dv_hand (pv 1) (dv_cons (de_var 2) (dv_cons (de_var 3) (dv_cons (de_var 4) dv_nil)))))) (by first | exact .inl rfl | exact .inr rfl))
  (dss_cons (ds_if (DW.dt (dw_or (dt_cmp op_isP (dl_var 6) (DE.dl de_non)) (dw_or1 (DW.dt (dw_and (dt_cmp (op_ltP hu) (DE.dl (de_callB call_lenP (by rfl) T.m_len bt_len (dls_cons (dl_var 2) dls_nil))) (DE.dl de_int)) (dw_and1 (dt_not (dt_val (de_call G__law_is_least_right mono__law_is_least_right hr (by rfl) T.g__law_is_least_right T.F__law_is_least_right.kp T.b__law_is_least_right pass0 (dv_hand (pv 1) (dv_cons (de_var 2) (dv_cons (de_var 3) (dv_cons (de_var 4) (dv_cons (de_var 6) dv_nil)))))))))))))) (dss_cons (ds_ret (DE.x de_bl))
  dss_nil) dss_nil)
  dss_nil)))))
  (dss_cons (ds_ret (DE.x de_bl))
  dss_nil))))), ?_⟩
    rfl
  obtain ⟨t, h1, h2⟩ := h
  rw [← h2]
  exact h1
end Lw
end
section
set_option Elab.async false
set_option linter.all false
set_option maxRecDepth 100000
set_option maxHeartbeats 4000000
open PySem PySem.Spec PyProof.Rows L2 PD
namespace Lw
def stD (st : List (List Nat)) : PyData := .tuple (st.map nT)

def isI : PyData → Bool
  | .int _ => true
  | _ => false
def within (d : PyData) (lo hi : Int) : Bool := match d with
  | .int i => decide (lo ≤ i ∧ i ≤ hi)
  | _ => false
def sized (d : PyData) (lo hi : Int) : Bool := match d with
  | .tuple ds => decide (lo ≤ (ds.length : Int) ∧ (ds.length : Int) ≤ hi)
  | _ => false
@[simp] theorem within_int (i lo hi : Int) : within (.int i) lo hi = decide (lo ≤ i ∧ i ≤ hi) := rfl
@[simp] theorem within_nD (n : Nat) (lo hi : Int) : within (nD n) lo hi = decide (lo ≤ (n : Int) ∧ (n : Int) ≤ hi) := rfl
@[simp] theorem sized_tuple (ds : List PyData) (lo hi : Int) : sized (.tuple ds) lo hi = decide (lo ≤ (ds.length : Int) ∧ (ds.length : Int) ≤ hi) := rfl
@[simp] theorem isI_int (i : Int) : isI (.int i) = true := rfl
@[simp] theorem isI_nD (i : Nat) : isI (nD i) = true := rfl
def S_is_integer : FSpec := fun avs hd Q E => ∃ d, avs = [.d d] ∧ Q (.bool (isI d)) hd
theorem rd_is_integer (avs hd Q E) (h : S_is_integer avs hd Q E) : t_is_integer (fnEnds false Q) ⟨initG ["thing"] avs, hd⟩ := by
  obtain ⟨d, rfl, q⟩ := h
  cases d <;> simpa [t_is_integer, isI, PyData.isInt, PyData.isBool] using q
def S_is_within : FSpec := fun avs hd Q E => ∃ d lo hi, avs = [.d d, .d (.int lo), .d (.int hi)] ∧ Q (.bool (within d lo hi)) hd
theorem rd_is_within (avs hd Q E) (h : S_is_within avs hd Q E) : t_is_within S_is_integer (fnEnds false Q) ⟨initG ["thing", "low", "high"] avs, hd⟩ := by
  obtain ⟨d, lo, hi, rfl, q⟩ := h
  cases d with
  | int i =>
    simp [t_is_within, S_is_integer]
    by_cases h1 : lo ≤ i
    · exact .inr ⟨h1, by simpa [h1] using q⟩
    · exact .inl ⟨by omega, by simpa [h1] using q⟩
  | _ => simpa [t_is_within, S_is_integer, isI, within] using q
def S_is_sized : FSpec := fun avs hd Q E => ∃ d lo hi, avs = [.d d, .d (.int lo), .d (.int hi)] ∧ Q (.bool (sized d lo hi)) hd
theorem rd_is_sized (avs hd Q E) (h : S_is_sized avs hd Q E) : t_is_sized (fnEnds false Q) ⟨initG ["thing", "low", "high"] avs, hd⟩ := by
  obtain ⟨d, lo, hi, rfl, q⟩ := h
  cases d with
  | tuple ds =>
    simp [t_is_sized]
    by_cases h1 : lo ≤ (ds.length : Int)
    · exact .inr ⟨h1, by simpa [h1] using q⟩
    · exact .inl ⟨by omega, by simpa [h1] using q⟩
  | _ => simpa [t_is_sized, sized, PyData.isTuple] using q
def rising (l : List Nat) : Prop := l.Pairwise (· < ·)
theorem cut_tail (ds : List PyData) : PD.cutD ds (some 1) none = ds.tail := by
  unfold PD.cutD
  rw [HT.sIx_none, show (some (1 : Int)) = some ((1 : Nat) : Int) from rfl, HT.sIx_nat]
  cases ds with
  | nil => rfl
  | cons x l =>
    have e : min 1 (x :: l).length = 1 := by simp
    rw [e]
    simp
theorem zip_nD (l m : List Nat) : zipD (l.map nD) (m.map nD) = (l.zip m).map fun p => .tuple [nD p.1, nD p.2] := by
  unfold zipD
  rw [List.zip_map]
  simp
theorem rising_zip : ∀ {l : List Nat}, rising l → (l.zip l.tail).all (fun p => decide ((p.1 : Int) < p.2)) = true
  | [], _ => rfl
  | [x], _ => rfl
  | x :: y :: l, h => by
    have h1 := List.pairwise_cons.mp h
    have h2 := rising_zip (l := y :: l) h1.2
    have h3 := h1.1 y List.mem_cons_self
    show ((x, y) :: (y :: l).zip l).all _ = true
    rw [List.all_cons]
    simp only [Bool.and_eq_true, decide_eq_true_eq]
    exact ⟨by show (x : Int) < y; omega, h2⟩
def S_are_rising : FSpec := fun avs hd Q E => ∃ l : List Nat, avs = [.d (nT l)] ∧ rising l ∧ l.length ≤ 1000 ∧ Q (.bool true) hd
theorem rd_are_rising (avs hd Q E) (h : S_are_rising avs hd Q E) : t_are_rising (fnEnds false Q) ⟨initG ["things", "one", "other"] avs, hd⟩ := by
  obtain ⟨l, rfl, hr, hl, q⟩ := h
  have e : slD (.tuple (l.map nD)) (some 1) none = some (.tuple (l.tail.map nD)) := by
    show some (PyData.tuple (PD.cutD _ _ _)) = _
    rw [cut_tail, List.map_tail]
  simp only [t_are_rising]
  simp [nT, e]
  refine ⟨_, _, ⟨rfl, rfl⟩, ?_⟩
  rw [← List.map_tail, zip_nD]
  refine ⟨by simp [sizeLine]; omega, cRun_of _ (fun p => .bool (decide ((p.1 : Int) < p.2))) _ (fun p hp Y y => by simpa [nD, and_assoc] using y) _ _ ?_⟩
  simp only [List.nil_append, allD_map, rising_zip hr]
  exact ⟨_, rfl, q⟩
def S_is_lot : FSpec := fun avs hd Q E => ∃ (l : List Nat) (n : Nat), avs = [.d (nT l), .d (.int (n : Int))] ∧ rising l ∧ l.length ≤ 1000 ∧ (∀ x ∈ l, x < n) ∧ Q (.bool true) hd
theorem rd_is_lot (avs hd Q E) (h : S_is_lot avs hd Q E) : t_is_lot S_is_within S_are_rising (fnEnds false Q) ⟨initG ["thing", "many", "one"] avs, hd⟩ := by
  obtain ⟨l, n, rfl, hr, hl, hx, q⟩ := h
  simp only [t_is_lot]
  simp [nT, and_assoc]
  refine ⟨by simp [sizeLine]; omega, cRun_of _ (fun x => .bool (decide (x < n))) _ (fun x hx' Y y => ?_) _ _ ?_⟩
  · have := hx x hx'
    simp [S_is_within, and_assoc]
    simpa [show (x : Int) ≤ (n : Int) - 1 by omega, this] using y
  · simp only [List.nil_append, allD_map]
    refine ⟨_, rfl, ?_⟩
    rw [show l.all (fun x => decide (x < n)) = true from List.all_eq_true.mpr fun x h => by simpa using hx x h]
    simp [S_are_rising]
    exact ⟨l, rfl, hr, hl, q⟩
/-- right stages -/
structure Ok (st : List (List Nat)) : Prop where
  n1 : 1 ≤ st.length
  n2 : st.length ≤ 10
  rise : ∀ l ∈ st, rising l
  lt : ∀ l ∈ st, ∀ x ∈ l, x < st.length
  rank : ∃ r : Nat → Nat, ∀ (i : Nat) (l : List Nat), st[i]? = some l → ∀ x ∈ l, r x < r i
theorem rising_nodup {l : List Nat} (h : rising l) : l.Nodup := h.imp fun h => Nat.ne_of_lt h
theorem rising_len {l : List Nat} {n : Nat} (h : rising l) (hx : ∀ x ∈ l, x < n) : l.length ≤ n := by
  have s : l ⊆ List.range n := fun x h => List.mem_range.mpr (hx x h)
  have := (rising_nodup h).length_le_of_subset s
  simpa using this
theorem Ok.len {st : List (List Nat)} (o : Ok st) {l : List Nat} (h : l ∈ st) : l.length ≤ 1000 := by
  have := rising_len (o.rise l h) (o.lt l h)
  have := o.n2
  omega
theorem plainAll_st (st : List (List Nat)) : PyData.plainAll (st.map nT) = true := plainAll_of fun d h => by
  obtain ⟨l, _, rfl⟩ := List.mem_map.mp h
  simp [nT]
theorem enum_map {α : Type} (f : α → PyData) (l : List α) : enumD (l.map f) = l.zipIdx.map fun p => .tuple [nD p.2, f p.1] := by
  unfold enumD
  apply List.ext_getElem
  · simp
  · intro i h1 h2
    simp [nD]
def S_are_stages : FSpec := fun avs hd Q E => ∃ st, avs = [.d (stD st)] ∧ Ok st ∧ Q (.bool true) hd
theorem rd_are_stages (avs hd Q E) (h : S_are_stages avs hd Q E) : t_are_stages S_is_sized S_is_lot (fnEnds false Q) ⟨initG ["thing", "lot", "number"] avs, hd⟩ := by
  obtain ⟨st, rfl, o, q⟩ := h
  have h1 := o.n1
  have h2 := o.n2
  simp only [t_are_stages]
  simp [stD, S_is_sized, and_assoc]
  rw [if_pos ⟨by omega, by omega⟩]
  refine ⟨by simp [sizeLine]; omega, cRun_of _ (fun x => .bool true) _ (fun l hl Y y => ?_) _ _ ?_⟩
  · simp [S_is_lot, and_assoc]
    exact ⟨l, rfl, st.length, rfl, o.rise l hl, o.len hl, o.lt l hl, y⟩
  · refine ⟨_, (allD_map (fun _ => true) st), ?_⟩
    simp
    rw [enum_map]
    refine ⟨by simp [sizeLine]; omega, cRun_of _ (fun p => .bool (decide (p.2 ∈ p.1))) _ (fun p hp Y y => ?_) _ _ ?_⟩
    · simpa [nT, and_assoc] using y
    · simp only [List.nil_append, anyD_map]
      refine ⟨_, rfl, ?_⟩
      have e : st.zipIdx.any (fun p => decide (p.2 ∈ p.1)) = false := by
        rw [List.any_eq_false]
        intro p hp
        obtain ⟨r, hr⟩ := o.rank
        have := List.mk_mem_zipIdx_iff_getElem?.mp (show (p.1, p.2) ∈ st.zipIdx from hp)
        simp only [decide_eq_true_eq]
        intro z
        exact Nat.lt_irrefl _ (hr p.2 p.1 this p.2 z)
      rw [e]
      simpa using q
def S_check_stages : FSpec := fun avs hd Q E => ∃ st, avs = [.d (stD st)] ∧ Ok st ∧ Q .none hd
theorem rd_check_stages (avs hd Q E) (h : S_check_stages avs hd Q E) : t_check_stages S_are_stages (fnEnds false Q) ⟨initG ["stages"] avs, hd⟩ := by
  obtain ⟨st, rfl, o, q⟩ := h
  simp [t_check_stages, S_are_stages]
  exact ⟨st, rfl, o, q⟩

/-! ### the order -/
def nds (st : List (List Nat)) (i : Nat) : List Nat := st.getD i []
def ready (st : List (List Nat)) (o : List Nat) (i : Nat) : Bool := !decide (i ∈ o) && (nds st i).all fun x => decide (x ∈ o)
def free (st : List (List Nat)) (o : List Nat) : List Nat := (List.range st.length).filter (ready st o)
def ordN (st : List (List Nat)) : Nat → List Nat
  | 0 => []
  | k + 1 => ordN st k ++ (free st (ordN st k)).take 1
def ord (st : List (List Nat)) : List Nat := ordN st st.length
theorem least_rank (r : Nat → Nat) (p : Nat → Bool) : ∀ (l : List Nat), (∃ x ∈ l, p x = true) → ∃ x ∈ l, p x = true ∧ ∀ y ∈ l, p y = true → r x ≤ r y
  | [], ⟨x, h, _⟩ => nomatch h
  | a :: l, h => by
    by_cases hl : ∃ x ∈ l, p x = true
    · obtain ⟨x, h1, h2, h3⟩ := least_rank r p l hl
      by_cases ha : p a = true ∧ r a < r x
      · exact ⟨a, List.mem_cons_self, ha.1, fun y hy py => by
          rcases List.mem_cons.mp hy with z | z
          · rw [z]; exact Nat.le_refl _
          · exact Nat.le_of_lt (Nat.lt_of_lt_of_le ha.2 (h3 y z py))⟩
      · exact ⟨x, List.mem_cons_of_mem _ h1, h2, fun y hy py => by
          rcases List.mem_cons.mp hy with z | z
          · subst z
            by_cases q : r y < r x
            · exact absurd ⟨py, q⟩ ha
            · omega
          · exact h3 y z py⟩
    · obtain ⟨x, hx, px⟩ := h
      rcases List.mem_cons.mp hx with z | z
      · subst z
        exact ⟨x, List.mem_cons_self, px, fun y hy py => by
          rcases List.mem_cons.mp hy with z | z
          · rw [z]; exact Nat.le_refl _
          · exact absurd ⟨y, z, py⟩ hl⟩
      · exact absurd ⟨x, z, px⟩ hl
/-- what is made so far -/
structure OrdOk (st : List (List Nat)) (k : Nat) : Prop where
  len : (ordN st k).length = k
  nd : (ordN st k).Nodup
  lt : ∀ x ∈ ordN st k, x < st.length
theorem full_of {o : List Nat} {n : Nat} (nd : o.Nodup) (lt : ∀ x ∈ o, x < n) (len : n ≤ o.length) : ∀ i, i < n → i ∈ o := by
  intro i hi
  by_cases h : i ∈ o
  · exact h
  · have s : (i :: o) ⊆ List.range n := fun x hx => List.mem_range.mpr (by
      rcases List.mem_cons.mp hx with z | z
      · rw [z]; exact hi
      · exact lt x z)
    have := (List.nodup_cons.mpr ⟨h, nd⟩).length_le_of_subset s
    simp at this
    omega
theorem Ok.free_ne {st : List (List Nat)} (v : Ok st) {o : List Nat} (h : ∃ i, i < st.length ∧ i ∉ o) : free st o ≠ [] := by
  obtain ⟨r, hr⟩ := v.rank
  obtain ⟨i, hi, hn⟩ := h
  obtain ⟨x, h1, h2, h3⟩ := least_rank r (fun x => !decide (x ∈ o)) (List.range st.length) ⟨i, List.mem_range.mpr hi, by simpa using hn⟩
  have hx := List.mem_range.mp h1
  have m : x ∈ free st o := List.mem_filter.mpr ⟨h1, by
    unfold ready
    rw [Bool.and_eq_true]
    refine ⟨h2, List.all_eq_true.mpr fun y hy => ?_⟩
    have e : st[x]? = some st[x] := List.getElem?_eq_getElem hx
    have hy : y ∈ st[x] := by simpa [nds, List.getD, e] using hy
    have ry := hr x _ e y hy
    by_cases z : y ∈ o
    · simpa using z
    · have ly := v.lt _ (List.getElem_mem hx) y hy
      have := h3 y (List.mem_range.mpr ly) (by simpa using z)
      omega⟩
  intro z
  rw [z] at m
  cases m
theorem free_mem {st : List (List Nat)} {o : List Nat} {x : Nat} (h : x ∈ free st o) : x < st.length ∧ x ∉ o ∧ ∀ y ∈ nds st x, y ∈ o := by
  obtain ⟨h1, h2⟩ := List.mem_filter.mp h
  unfold ready at h2
  rw [Bool.and_eq_true] at h2
  exact ⟨List.mem_range.mp h1, by simpa using h2.1, fun y hy => by simpa using List.all_eq_true.mp h2.2 y hy⟩
theorem Ok.ord {st : List (List Nat)} (v : Ok st) : ∀ k, k ≤ st.length → OrdOk st k
  | 0, _ => ⟨rfl, List.nodup_nil, fun x h => nomatch h⟩
  | k + 1, hk => by
    have ih := Ok.ord v k (by omega)
    have ne : free st (ordN st k) ≠ [] := v.free_ne (by
      by_cases h : ∃ i, i < st.length ∧ i ∉ ordN st k
      · exact h
      · have s : List.range st.length ⊆ ordN st k := fun x hx => by
          by_cases z : x ∈ ordN st k
          · exact z
          · exact absurd ⟨x, List.mem_range.mp hx, z⟩ h
        have := List.nodup_range.length_le_of_subset s
        rw [List.length_range, ih.len] at this
        omega)
    cases e : free st (ordN st k) with
    | nil => exact absurd e ne
    | cons a l =>
      have ha := free_mem (st := st) (o := ordN st k) (x := a) (by rw [e]; exact List.mem_cons_self)
      have eq : ordN st (k + 1) = ordN st k ++ [a] := by
        show ordN st k ++ (free st (ordN st k)).take 1 = _
        rw [e]; rfl
      refine ⟨by rw [eq, List.length_append, ih.len]; rfl, ?_, fun x hx => ?_⟩
      · rw [eq]
        exact List.nodup_append.mpr ⟨ih.nd, by simp, fun x hx y hy z => ha.2.1 (by
          rw [List.mem_singleton.mp hy] at z
          rw [← z]; exact hx)⟩
      · rw [eq] at hx
        rcases List.mem_append.mp hx with z | z
        · exact ih.lt x z
        · rw [List.mem_singleton.mp z]; exact ha.1
end Lw
end
section
set_option Elab.async false
set_option linter.all false
set_option maxRecDepth 100000
set_option maxHeartbeats 4000000
open PySem PySem.Spec PyProof.Rows L2 PD
namespace Lw
theorem ix_st {st : List (List Nat)} {a : Nat} (h : a < st.length) : ixD (.tuple (st.map nT)) (nD a) = some (nT (nds st a)) := by
  show ixD _ (.int (a : Int)) = _
  rw [ixD_tuple (by simpa using h)]
  simp [nds, List.getD, h]
theorem rng_nat (n : Nat) : rngD 0 n = (List.range n).map nD := rngD_nat n
def S_least_order : FSpec := fun avs hd Q E => ∃ st, avs = [.d (stD st)] ∧ Ok st ∧ Q (nT (ord st)) hd
def left (n : Nat) (s : PSt) : Nat := match s.G[1]? with
  | some (Sl.m (.list l)) => n - l.length
  | _ => 0
theorem rd_least_order (avs hd Q E) (h : S_least_order avs hd Q E) : t_least_order (fnEnds false Q) ⟨initG ["stages", "order", "ready", "one", "need"] avs, hd⟩ := by
  obtain ⟨st, rfl, o, q⟩ := h
  have h1 := o.n1
  have h2 := o.n2
  simp only [t_least_order]
  simp [stD]
  refine tWh_inv (fun s => ∃ k S2, k ≤ st.length ∧ s = ⟨[.v (.tuple (st.map nT)), .m (.list ((ordN st k).map nD)), S2, .no, .no], hd⟩) (left st.length) ⟨0, _, Nat.zero_le _, rfl⟩ ?_
  rintro s N ⟨k, S2, hk, rfl⟩ hN
  have ok := o.ord k hk
  simp [ok.len]
  by_cases hlt : k < st.length
  · refine .inr ⟨hlt, by omega, ?_⟩
    rw [rng_nat]
    refine ⟨by simp [sizeLine]; omega, cRun_if _ (ready st (ordN st k)) nD _ (fun a ha Y M y n => ?_) _ _ ?_⟩
    · have ha := List.mem_range.mp ha
      simp
      by_cases hm : a ∈ ordN st k
      · simp [hm]
        exact n (by simp [ready, hm])
      · simp [hm, ix_st ha, nT]
        have hl : (nds st a).length ≤ 1000 := by
          rw [nds, List.getD_eq_getElem?_getD, List.getElem?_eq_getElem ha]
          exact o.len (List.getElem_mem ha)
        refine ⟨by simp [sizeLine] at hl ⊢; omega, cRun_of _ (fun x => .bool (decide (x ∈ ordN st k))) _ (fun x hx Y y => ?_) _ _ ?_⟩
        · simpa using y
        · simp only [List.nil_append, allD_map]
          refine ⟨_, rfl, ?_⟩
          have y : ((nds st a).all fun x => decide (x ∈ ordN st k)) = true → Y (nD a) hd := fun e => y (by simp only [ready, hm, e]; rfl)
          have n : ((nds st a).all fun x => decide (x ∈ ordN st k)) = false → M hd := fun e => n (by simp only [ready, hm, e]; rfl)
          generalize ((nds st a).all fun x => decide (x ∈ ordN st k)) = b at y n ⊢
          cases b with
          | true => simpa using y rfl
          | false => simpa using n rfl
    · have eqs : (List.range st.length).filter (ready st (ordN st k)) = free st (ordN st k) := rfl
      rw [eqs]
      have ne : free st (ordN st k) ≠ [] := o.free_ne (by
        by_cases h : ∃ i, i < st.length ∧ i ∉ ordN st k
        · exact h
        · have s : List.range st.length ⊆ ordN st k := fun x hx => by
            by_cases z : x ∈ ordN st k
            · exact z
            · exact absurd ⟨x, List.mem_range.mp hx, z⟩ h
          have := List.nodup_range.length_le_of_subset s
          rw [List.length_range, ok.len] at this
          omega)
      cases e : free st (ordN st k) with
      | nil => exact absurd e ne
      | cons a l =>
        refine .inl ⟨by simp, nD a, by have := ixD_list (l := nD a :: l.map nD) (k := 0) (by simp); simpa using this, by simp [sizeLine]; omega, ?_⟩
        have eo : ordN st (k + 1) = ordN st k ++ [a] := by
          show ordN st k ++ (free st (ordN st k)).take 1 = _
          rw [e]; rfl
        refine hN _ ⟨k + 1, .m (.list ((a :: l).map nD)), hlt, ?_⟩ ?_
        · rw [eo, List.map_append]; rfl
        · simp [left, ok.len]; omega
  · have e : k = st.length := by omega
    subst e
    exact .inl ⟨Nat.le_refl _, q⟩
end Lw
end
section
set_option Elab.async false
set_option linter.all false
set_option maxRecDepth 100000
set_option maxHeartbeats 4000000
open PySem PySem.Spec PyProof.Rows L2 PD
namespace Lw
theorem alike_nD (m n : Nat) : PySem.W.alike (nD m) (nD n) = true := by simp [nD, PySem.W.alike]
theorem okMin_nD {l : List Nat} (h : l ≠ []) : okMin (l.map nD) = true := by
  cases l with
  | nil => exact absurd rfl h
  | cons x l =>
    have h1 : PyData.plainAll ((x :: l).map nD) = true := plainAll_nD _
    have h2 : PyData.depthAll ((x :: l).map nD) = 0 := depthAll_nD _
    have h3 : ((x :: l).map nD).all (fun a => ((x :: l).map nD).all fun b => PySem.W.alike a b) = true := List.all_eq_true.mpr fun a ha => List.all_eq_true.mpr fun b hb => by
      obtain ⟨m, _, rfl⟩ := List.mem_map.mp ha
      obtain ⟨n, _, rfl⟩ := List.mem_map.mp hb
      exact alike_nD m n
    have h4 : ((x :: l).map nD).all (fun a => !(isNone a)) = true := List.all_eq_true.mpr fun a ha => by
      obtain ⟨m, _, rfl⟩ := List.mem_map.mp ha
      rfl
    show (PyData.plainAll ((x :: l).map nD) && ((x :: l).map nD).all (fun a => ((x :: l).map nD).all fun b => PySem.W.alike a b) && ((x :: l).map nD).all (fun a => !(isNone a)) && decide (PyData.depthAll ((x :: l).map nD) ≤ 60)) = true
    rw [h1, h2, h3, h4]
    rfl
def mx (x : Nat) (l : List Nat) : Nat := l.foldl max x
theorem maxD_nD : ∀ (l : List Nat) (x : Nat), PySem.W.maxD (nD x) (l.map nD) = nD (mx x l) := fun l => by
  unfold PySem.W.maxD mx
  induction l with
  | nil => exact fun _ => rfl
  | cons y l ih =>
    intro x
    rw [List.map_cons, List.foldl_cons, List.foldl_cons]
    have e : (if PySem.W.dataLt (nD x) (nD y) = true then nD y else nD x) = nD (max x y) := by
      simp only [nD, PySem.W.dataLt_int, decide_eq_true_eq]
      by_cases h : x < y
      · rw [if_pos (by omega), Nat.max_eq_right (by omega)]
      · rw [if_neg (by omega), Nat.max_eq_left (by omega)]
    rw [e]
    exact ih _
theorem maxOf_nD (x : Nat) (l : List Nat) : maxOfD [.list (nD x :: l.map nD)] = some (nD (mx x l)) := by
  have := okMin_nD (l := x :: l) (by simp)
  unfold maxOfD
  rw [List.map_cons] at this
  simp only [this, if_true, maxD_nD]
def at0 (l : List Nat) (i : Nat) : Nat := l.getD i 0
theorem add_nD (m n : Nat) : addD (nD m) (nD n) = some (nD (m + n)) := by simp [nD]
theorem ix_nT {l : List Nat} {a : Nat} (h : a < l.length) : ixD (.tuple (l.map nD)) (nD a) = some (nD (at0 l a)) := by
  show ixD _ (.int (a : Int)) = _
  rw [ixD_tuple (by simpa using h)]
  simp [at0, List.getD, h]
theorem ix_nL {l : List Nat} {a : Nat} (h : a < l.length) : ixD (.list (l.map nD)) (nD a) = some (nD (at0 l a)) := by
  show ixD _ (.int (a : Int)) = _
  rw [ixD_list (by simpa using h)]
  simp [at0, List.getD, h]
def endStep (st : List (List Nat)) (ts e : List Nat) (i : Nat) : List Nat := e.set i (at0 ts i + mx 0 ((nds st i).map (at0 e)))
def endsOn (st : List (List Nat)) (ts o : List Nat) : List Nat := o.foldl (endStep st ts) (List.replicate st.length 0)
theorem endStep_len (st : List (List Nat)) (ts e : List Nat) (i : Nat) : (endStep st ts e i).length = e.length := by simp [endStep]
theorem endsOn_len (st : List (List Nat)) (ts o : List Nat) : (endsOn st ts o).length = st.length := by
  have go : ∀ (o e : List Nat), (o.foldl (endStep st ts) e).length = e.length := fun o => by
    induction o with
    | nil => exact fun _ => rfl
    | cons x o ih => intro e; rw [List.foldl_cons, ih, endStep_len]
  rw [endsOn, go, List.length_replicate]
theorem Ok.nds_len {st : List (List Nat)} (v : Ok st) (a : Nat) : (nds st a).length ≤ 1000 := by
  unfold nds
  rw [List.getD_eq_getElem?_getD]
  by_cases h : a < st.length
  · rw [List.getElem?_eq_getElem h]; exact v.len (List.getElem_mem h)
  · rw [List.getElem?_eq_none (by omega)]; simp
theorem Ok.nds_lt {st : List (List Nat)} (v : Ok st) {a x : Nat} (h : x ∈ nds st a) : x < st.length := by
  unfold nds at h
  rw [List.getD_eq_getElem?_getD] at h
  by_cases h2 : a < st.length
  · rw [List.getElem?_eq_getElem h2] at h; exact v.lt _ (List.getElem_mem h2) x h
  · rw [List.getElem?_eq_none (by omega)] at h; simp at h
def S_raw_ends : FSpec := fun avs hd Q E => ∃ st ts o, avs = [.d (stD st), .d (nT ts), .d (nT o)] ∧ Ok st ∧ ts.length = st.length ∧ (∀ x ∈ o, x < st.length) ∧ Q (nL (endsOn st ts o)) hd
theorem rd_raw_ends (avs hd Q E) (h : S_raw_ends avs hd Q E) : t_raw_ends (fnEnds false Q) ⟨initG ["stages", "times", "order", "ends", "number", "need"] avs, hd⟩ := by
  obtain ⟨st, ts, o, rfl, v, ht, ho, q⟩ := h
  have h2 := v.n2
  simp only [t_raw_ends]
  simp [stD, nT]
  refine ⟨by simp [sizeLine], .list ((List.replicate st.length 0).map nD), ?_, ?_⟩
  · simp only [repL, repD]
    rw [if_pos ⟨by omega, by omega, by simp [sizeLine]; omega⟩]
    simp [nD]
  · refine fRun_inv (fun i s => ∃ S4, s = ⟨[.v (.tuple (st.map nT)), .v (.tuple (ts.map nD)), .v (.tuple (o.map nD)), .m (.list ((endsOn st ts (o.take i)).map nD)), S4, .no], hd⟩) ?_ ?_ ⟨.no, by simp [endsOn]⟩
    · rintro i d s N hd' ⟨S4, rfl⟩ hN
      have hi : i < o.length := by simpa using (List.getElem?_eq_some_iff.mp hd').1
      have ed : d = nD o[i] := by
        rw [List.getElem?_map, List.getElem?_eq_getElem hi] at hd'
        exact (Option.some.inj hd').symm
      subst ed
      have ha := ho o[i] (List.getElem_mem hi)
      have et : endsOn st ts (o.take (i + 1)) = endStep st ts (endsOn st ts (o.take i)) o[i] := by
        unfold endsOn
        rw [List.take_succ_eq_append_getElem hi, List.foldl_append]
        rfl
      generalize o[i] = a at ha et ⊢
      have el : (endsOn st ts (o.take i)).length = st.length := endsOn_len _ _ _
      generalize endsOn st ts (o.take i) = e at et el ⊢
      simp [ix_nT (l := ts) (a := a) (by omega), ix_st ha, nT]
      have hn := v.nds_len a
      refine ⟨by simp [sizeLine], by simp [sizeLine]; omega, cRun_of _ (fun x => nD (at0 e x)) _ (fun x hx Y y => ?_) _ _ ?_⟩
      · have := v.nds_lt hx
        simp [ix_nL (l := e) (a := x) (by omega)]
        exact y
      · have m1 : (nds st a).map (fun x => nD (at0 e x)) = ((nds st a).map (at0 e)).map nD := by simp
        rw [List.nil_append, m1]
        have m2 : addD (.list [.int 0]) (.list (((nds st a).map (at0 e)).map nD)) = some (.list (nD 0 :: ((nds st a).map (at0 e)).map nD)) := by
          show (if _ then _ else _) = _
          rw [if_pos (by simp [sizeLine]; omega)]
          rfl
        refine ⟨_, m2, _, maxOf_nD _ _, ?_⟩
        refine ⟨_, add_nD _ _, _, rfl, a, ixN_nat (by omega), hN _ ⟨.v (nD a), ?_⟩⟩
        rw [et, endStep, List.map_set]
    · rintro s ⟨S4, rfl⟩
      simpa [tRtV, nL] using q
def S_check_ringless : FSpec := fun avs hd Q E => ∃ st, avs = [.d (stD st)] ∧ Ok st ∧ Q (nT (ord st)) hd
theorem rd_check_ringless (avs hd Q E) (h : S_check_ringless avs hd Q E) : t_check_ringless S_check_stages S_least_order (fnEnds false Q) ⟨initG ["stages", "order"] avs, hd⟩ := by
  obtain ⟨st, rfl, v, q⟩ := h
  simp [t_check_ringless, S_check_stages, S_least_order]
  exact ⟨st, rfl, v, st, rfl, v, by simpa [nT] using q⟩
def S_check_times : FSpec := fun avs hd Q E => ∃ st ts, avs = [.d (stD st), .d (nT ts)] ∧ Ok st ∧ ts.length = st.length ∧ (∀ x ∈ ts, x ≤ 100) ∧ Q (nT (ord st)) hd
theorem rd_check_times (avs hd Q E) (h : S_check_times avs hd Q E) : t_check_times S_is_within S_is_sized S_check_ringless (fnEnds false Q) ⟨initG ["stages", "times", "order", "one"] avs, hd⟩ := by
  obtain ⟨st, ts, rfl, v, ht, hx, q⟩ := h
  have h2 := v.n2
  simp [t_check_times, S_check_ringless, S_is_sized]
  refine ⟨st, rfl, v, ?_⟩
  simp [nT, stD, ht, and_assoc]
  refine ⟨by simp [sizeLine]; omega, cRun_of _ (fun x => .bool (decide (x ≤ 100))) _ (fun x hx' Y y => ?_) _ _ ?_⟩
  · have := hx x hx'
    simp [S_is_within, and_assoc]
    simpa [show (x : Int) ≤ 100 by omega, this] using y
  · simp only [List.nil_append, allD_map]
    refine ⟨_, rfl, ?_⟩
    rw [show ts.all (fun x => decide (x ≤ 100)) = true from List.all_eq_true.mpr fun x h => by simpa using hx x h]
    simpa [nT] using q
theorem ord_all {st : List (List Nat)} (v : Ok st) : (ord st).Nodup ∧ (∀ x ∈ ord st, x < st.length) ∧ (ord st).length = st.length ∧ ∀ i, i < st.length → i ∈ ord st := by
  have k := v.ord st.length (Nat.le_refl _)
  exact ⟨k.nd, k.lt, k.len, full_of k.nd k.lt (Nat.le_of_eq k.len.symm)⟩
def ends (st : List (List Nat)) (ts : List Nat) : List Nat := endsOn st ts (ord st)
def S_ends_of : FSpec := fun avs hd Q E => ∃ st ts, avs = [.d (stD st), .d (nT ts)] ∧ Ok st ∧ ts.length = st.length ∧ (∀ x ∈ ts, x ≤ 100) ∧ Q (nT (ends st ts)) hd
theorem rd_ends_of (avs hd Q E) (h : S_ends_of avs hd Q E) : t_ends_of S_check_times S_raw_ends (fnEnds false Q) ⟨initG ["stages", "times", "order"] avs, hd⟩ := by
  obtain ⟨st, ts, rfl, v, ht, hx, q⟩ := h
  simp [t_ends_of, S_check_times, S_raw_ends, and_assoc]
  exact ⟨st, rfl, ts, rfl, v, ht, hx, st, rfl, ts, rfl, ord st, rfl, v, ht, (ord_all v).2.1, by simpa [nL, nT, ends] using q⟩
end Lw
end
section
set_option Elab.async false
set_option linter.all false
set_option maxRecDepth 100000
set_option maxHeartbeats 4000000
open PySem PySem.Spec PyProof.Rows L2 PD
namespace Lw
/-! ### the draws -/
@[simp] theorem at5_0 (a b c d e : PyData) : atI [a, b, c, d, e] 0 = some a := rfl
@[simp] theorem at5_1 (a b c d e : PyData) : atI [a, b, c, d, e] 1 = some b := rfl
@[simp] theorem at5_2 (a b c d e : PyData) : atI [a, b, c, d, e] 2 = some c := rfl
@[simp] theorem at5_3 (a b c d e : PyData) : atI [a, b, c, d, e] 3 = some d := rfl
@[simp] theorem at5_4 (a b c d e : PyData) : atI [a, b, c, d, e] 4 = some e := rfl
@[simp] theorem ix5_1 : ixN 5 1 = some 1 := rfl
@[simp] theorem ix5_2 : ixN 5 2 = some 2 := rfl
@[simp] theorem ix5_3 : ixN 5 3 = some 3 := rfl
@[simp] theorem ix5_4 : ixN 5 4 = some 4 := rfl
theorem mul_ok {i j : Int} (h1 : -(2 ^ 64) < j) (h2 : j < 2 ^ 64) : mulD (.int i) (.int j) = some (.int (i * j)) := by
  have : CMul i j := by unfold CMul; omega
  simp [mulD, this]
theorem mul_okL {i j : Int} (h1 : -(2 ^ 64) < i) (h2 : i < 2 ^ 64) : mulD (.int i) (.int j) = some (.int (i * j)) := by
  have : CMul i j := by unfold CMul; omega
  simp [mulD, this]
theorem mul_mod {a m j : Int} (h1 : 0 < m) (h2 : m ≤ 2 ^ 62) : mulD (.int (a % m)) (.int j) = some (.int (a % m * j)) := by
  have h3 := Int.emod_nonneg a (show m ≠ 0 by omega)
  have h4 := Int.emod_lt_of_pos a h1
  exact mul_okL (by omega) (by omega)
theorem mod_ok {i j : Int} (h : 0 < j) : modD (.int i) (.int j) = some (.int (i % j)) := by simp [modD, h]
theorem div_ok {i j : Int} (h : 0 < j) (h2 : j < 1073741824) : divD (.int i) (.int j) = some (.int (i / j)) := by simp [divD, h, h2]
theorem pow_ok : powD (.int 10) (.int 18) = some (.int 1000000000000000000) := rfl
theorem sq_of {t u : PTS} {E : PEnds} {s : PSt} (I : PSt → Prop) (hu : ∀ s', I s' → u E s') (ht : ∀ N : PSt → Prop, (∀ s', I s' → N s') → t { E with nx := N } s) : tSq t u E s := ht _ hu
def S__law_draw : FSpec := fun avs hd Q E => ∃ n : Nat, avs = [.hand, .d (.int (n : Int))] ∧ 0 < n ∧ n ≤ 1000 ∧ HandD hd ∧ ∀ v hd', v < n → HandD hd' → Q (nD v) hd'
theorem rd__law_draw (avs hd Q E) (h : S__law_draw avs hd Q E) : t__law_draw (fnEnds false Q) ⟨initG ["hand", "many", "cell", "digit", "number"] avs, hd⟩ := by
  obtain ⟨n, rfl, n0, n1, ⟨cells, i, c, s, k, rfl, hc, c0, s0, k0⟩, q⟩ := h
  simp only [t__law_draw]
  refine sq_of (fun s' => ∃ hd' S2, s' = ⟨[.h, .v (.int (n : Int)), S2, .no, .no], hd'⟩ ∧ HandD hd') ?_ fun N hN => ?_
  · rintro s' ⟨hd', S2, rfl, ⟨cells, i, c, s, k, rfl, hc, c0, s0, k0⟩⟩
    refine sq_of (fun s' => ∃ S2 S3 c, 0 ≤ c ∧ s' = ⟨[.h, .v (.int (n : Int)), S2, S3, .no], [.list (cells.map .int), .int i, .int c, .int s, .int k]⟩) ?_ fun N hN => ?_
    · rintro s' ⟨S2, S3, c, c0, rfl⟩
      simp
      refine ⟨_, mul_okL (by decide) (by decide), _, rfl, _, rfl, _, mul_ok (by decide) (by decide), _, rfl, _, mod_ok (by decide), _, div_ok (by decide) (by decide), _, rfl, _, mul_mod (by decide) (by decide), _, rfl, _, mod_ok (by decide), _, div_ok (by decide) (by decide), _, rfl, _, mul_mod (by decide) (by decide), _, rfl, _, mod_ok (by decide), _, div_ok (by decide) (by decide), _, rfl, _, mod_ok (by omega), ?_⟩
      generalize hz : (_ : Int) / 16 = z
      have h1 := Int.emod_nonneg z (show (n : Int) ≠ 0 by omega)
      have h2 := Int.emod_lt_of_pos z (show (0 : Int) < n by omega)
      have e : PyData.int (z % (n : Int)) = nD (z % (n : Int)).toNat := by unfold nD; congr 1; omega
      rw [e]
      exact q _ _ (by omega) ⟨cells, i, c, s, k + 1, rfl, hc, c0, s0, by omega⟩
    · simp
      by_cases h : 0 < c
      · refine .inr ⟨h, _, mod_ok (by omega), _, div_ok (by omega) (by omega), ?_⟩
        have h1 := Int.emod_nonneg c (show (n : Int) ≠ 0 by omega)
        have h2 := Int.emod_lt_of_pos c (show (0 : Int) < n by omega)
        have e : PyData.int (c % (n : Int)) = nD (c % (n : Int)).toNat := by unfold nD; congr 1; omega
        rw [e]
        exact q _ _ (by omega) ⟨cells, i, _, s, k, rfl, hc, Int.ediv_nonneg c0 (by omega), s0, k0⟩
      · exact .inl ⟨by omega, hN _ ⟨S2, .no, c, c0, rfl⟩⟩
  · simp [pow_ok, and_assoc]
    by_cases h : c = 0
    · refine .inr ⟨h, ?_⟩
      by_cases hi : i < cells.length
      · have ex : ixD (.list (cells.map .int)) (.int (i : Int)) = some (.int cells[i]) := by
          rw [ixD_list (by simpa using hi)]; simp
        have x0 := hc _ (List.getElem_mem hi)
        refine .inr ⟨hi, _, ex, _, mul_ok (by decide) (by decide), _, mul_ok (by decide) (by decide), _, rfl, _, rfl, _, rfl, _, mod_ok (by decide), _, geD_int _ _, ?_⟩
        have m0 := Int.emod_nonneg (s * 69621 + cells[i] * 48271 + 17) (show (2147483629 : Int) ≠ 0 by decide)
        by_cases hg : (1000000000000000000 : Int) ≤ cells[i]
        · exact .inr ⟨by simp [hg], hN _ ⟨_, _, rfl, cells, i + 1, cells[i], _, k, rfl, hc, x0, m0, k0⟩⟩
        · exact .inl ⟨by simp [hg], hN _ ⟨_, _, rfl, cells, i + 1, c, _, k, rfl, hc, c0, m0, k0⟩⟩
      · exact .inl ⟨by omega, hN _ ⟨_, _, rfl, cells, i, c, s, k, rfl, hc, c0, s0, k0⟩⟩
    · exact .inl ⟨h, hN _ ⟨_, _, rfl, cells, i, c, s, k, rfl, hc, c0, s0, k0⟩⟩
end Lw
end
section
set_option Elab.async false
set_option linter.all false
set_option maxRecDepth 100000
set_option maxHeartbeats 4000000
open PySem PySem.Spec PyProof.Rows L2 PD
namespace Lw
theorem rng_natE (n : Nat) : rngD 0 n = (List.range n).map nD := rngD_nat n
def S__law_any : FSpec := fun avs hd Q E => ∃ ds : List PyData, avs = [.hand, .d (.list ds)] ∧ 0 < ds.length ∧ ds.length ≤ 1000 ∧ HandD hd ∧ ∀ d ∈ ds, ∀ hd', HandD hd' → Q d hd'
theorem rd__law_any (avs hd Q E) (h : S__law_any avs hd Q E) : t__law_any S__law_draw (fnEnds false Q) ⟨initG ["hand", "some"] avs, hd⟩ := by
  obtain ⟨ds, rfl, h0, h1, hh, q⟩ := h
  simp only [t__law_any]
  simp [S__law_draw, and_assoc]
  refine ⟨ds.length, rfl, h0, h1, hh, fun v hd' hv hh' => ⟨ds[v], ?_, q _ (List.getElem_mem hv) hd' hh'⟩⟩
  show ixD _ (.int (v : Int)) = _
  rw [ixD_list hv]
def S__law_mixed : FSpec := fun avs hd Q E => ∃ ds : List PyData, avs = [.hand, .d (.list ds)] ∧ ds.length ≤ 1000 ∧ HandD hd ∧ ∀ out hd', out.Perm ds → HandD hd' → Q (.list out) hd'
theorem erase_perm {α : Type} {l : List α} {i : Nat} (h : i < l.length) : (l[i] :: l.eraseIdx i).Perm l := by
  have e : l = l.take i ++ l[i] :: l.drop (i + 1) := by
    rw [← List.drop_eq_getElem_cons h, List.take_append_drop]
  rw [List.eraseIdx_eq_take_drop_succ]
  refine (List.perm_middle.symm).trans ?_
  rw [← e]
def poolLen (s : PSt) : Nat := match s.G[2]? with
  | some (Sl.m (.list l)) => l.length
  | _ => 0
theorem rd__law_mixed (avs hd Q E) (h : S__law_mixed avs hd Q E) : t__law_mixed S__law_draw (fnEnds false Q) ⟨initG ["hand", "things", "pool", "found"] avs, hd⟩ := by
  obtain ⟨ds, rfl, h1, hh, q⟩ := h
  simp only [t__law_mixed]
  simp [listD, and_assoc]
  refine tWh_inv (fun s => ∃ pool found hd', s = ⟨[.h, .v (.list ds), .m (.list pool), .m (.list found)], hd'⟩ ∧ (found ++ pool).Perm ds ∧ HandD hd') poolLen ⟨ds, [], hd, rfl, List.Perm.refl _, hh⟩ ?_
  rintro s N ⟨pool, found, hd', rfl, hp, hh'⟩ hN
  have hl : found.length + pool.length ≤ 1000 := by
    have := hp.length_eq
    rw [List.length_append] at this
    omega
  simp [S__law_draw, and_assoc]
  by_cases h0 : 0 < pool.length
  · refine .inr ⟨h0, ?_⟩
    refine ⟨pool.length, rfl, h0, by omega, hh', fun v hd2 hv hh2 => ⟨v, rfl, by omega, pool[v], List.getElem?_eq_getElem hv, by simp [sizeLine]; omega, hN _ ⟨pool.eraseIdx v, found ++ [pool[v]], hd2, rfl, ?_, hh2⟩ ?_⟩⟩
    · rw [List.append_assoc]
      exact ((erase_perm hv).append_left found).trans hp
    · simp [poolLen, List.length_eraseIdx_of_lt hv]
      omega
  · have e : pool = [] := List.length_eq_zero_iff.mp (by omega)
    subst e
    refine .inl ⟨by simp, ?_⟩
    simpa [tRtV] using q _ _ (by simpa using hp) hh'
def S__law_is_integer : FSpec := fun avs hd Q E => ∃ d, avs = [.d d] ∧ Q (.bool (isI d)) hd
theorem rd__law_is_integer (avs hd Q E) (h : S__law_is_integer avs hd Q E) : t__law_is_integer (fnEnds false Q) ⟨initG ["thing"] avs, hd⟩ := by
  obtain ⟨d, rfl, q⟩ := h
  cases d <;> simpa [t__law_is_integer, isI, PyData.isInt, PyData.isBool] using q
def S__law_times : FSpec := fun avs hd Q E => ∃ n : Nat, avs = [.hand, .d (.int (n : Int))] ∧ n ≤ 1000 ∧ HandD hd ∧ ∀ ts hd', ts.length = n → (∀ x ∈ ts, x ≤ 100) → HandD hd' → Q (nT ts) hd'
theorem rd__law_times (avs hd Q E) (h : S__law_times avs hd Q E) : t__law_times S__law_draw S__law_any (fnEnds false Q) ⟨initG ["hand", "many", "wide", "one"] avs, hd⟩ := by
  obtain ⟨n, rfl, h1, hh, q⟩ := h
  simp only [t__law_times]
  simp [S__law_any, and_assoc]
  have key : ∀ w : Nat, 0 < w → w ≤ 101 → ∀ hd', HandD hd' → (n : Int) < 4611686018427387904 ∧ (rngD 0 n).length ≤ sizeLine ∧ cRun (gN 3) tYs (tFn S__law_draw (tCnH 0 (tCnV (tVr 2) tNlV))) [3] [Sl.h, Sl.v (PyData.int (n : Int)), Sl.v (PyData.int (w : Int)), Sl.no] (rngD 0 n) [] hd' fun out hd => Q (PyData.tuple out) hd := fun w w0 w1 hd' hh' => ?_
  · exact ⟨by simp [sizeLine], hh, key 2 (by omega) (by omega), key 3 (by omega) (by omega), key 6 (by omega) (by omega), key 101 (by omega) (by omega)⟩
  refine ⟨by omega, ?_⟩
  rw [rng_natE]
  refine ⟨by simp [sizeLine]; omega, cRun_inv (fun i out hd => ∃ ts : List Nat, out = ts.map nD ∧ ts.length = i ∧ (∀ x ∈ ts, x ≤ 100) ∧ HandD hd) (fun i d out hd Y M hi ⟨ts, eo, el, ex, hh⟩ y m => ?_) (fun out hd ⟨ts, eo, el, ex, hh⟩ => ?_) ⟨[], rfl, rfl, (fun x h => nomatch h), hh'⟩⟩
  · simp [S__law_draw]
    refine ⟨w, rfl, w0, by omega, hh, fun v hd2 hv hh2 => y _ _ ⟨ts ++ [v], by rw [eo]; simp, by simp [el], fun x hx => ?_, hh2⟩⟩
    rcases List.mem_append.mp hx with z | z
    · exact ex x z
    · rw [List.mem_singleton.mp z]; omega
  · subst eo
    simp at el
    exact q ts hd el ex hh
end Lw
end
section
set_option Elab.async false
set_option linter.all false
set_option maxRecDepth 100000
set_option maxHeartbeats 4000000
open PySem PySem.Spec PyProof.Rows L2 PD
namespace Lw
theorem Ok.free_lt {st : List (List Nat)} (o : Ok st) {k : Nat} (hk : k < st.length) : free st (ordN st k) ≠ [] := o.free_ne (by
  by_cases h : ∃ i, i < st.length ∧ i ∉ ordN st k
  · exact h
  · have s : List.range st.length ⊆ ordN st k := fun x hx => by
      by_cases z : x ∈ ordN st k
      · exact z
      · exact absurd ⟨x, List.mem_range.mp hx, z⟩ h
    have := List.nodup_range.length_le_of_subset s
    rw [List.length_range, (o.ord k (by omega)).len] at this
    omega)
end Lw
end
section
set_option Elab.async false
set_option linter.all false
set_option maxRecDepth 100000
set_option maxHeartbeats 4000000
open PySem PySem.Spec PyProof.Rows L2 PD
namespace Lw
theorem cut_to (ds : List PyData) (k : Nat) : PD.cutD ds none (some (k : Int)) = ds.take k := by
  unfold PD.cutD
  rw [HT.sIx_none, HT.sIx_nat, List.drop_zero, Nat.sub_zero]
  by_cases h : k ≤ ds.length
  · rw [Nat.min_eq_left h]
  · rw [Nat.min_eq_right (by omega), List.take_of_length_le (Nat.le_refl _), List.take_of_length_le (by omega)]
def S__law_round_free : FSpec := fun avs hd Q E => ∃ n : Nat, avs = [.hand, .d (.int (n : Int))] ∧ 1 ≤ n ∧ n ≤ 10 ∧ HandD hd ∧ ∀ st hd', Ok st → HandD hd' → Q (stD st) hd'
/-- what is drawn so far -/
structure Half (o : List Nat) (st : List (List Nat)) : Prop where
  len : st.length = o.length
  ok : ∀ (j : Nat) (l : List Nat), st[j]? = some l → rising l ∧ ∀ x ∈ l, x ∈ o ∧ o.idxOf x < o.idxOf j
theorem rd__law_round_free (avs hd Q E) (h : S__law_round_free avs hd Q E) : t__law_round_free S__law_draw S__law_any S__law_mixed (fnEnds false Q) ⟨initG ["hand", "most", "many", "order", "found", "much", "at", "stage", "one"] avs, hd⟩ := by
  obtain ⟨n, rfl, n1, n2, hh, q⟩ := h
  simp only [t__law_round_free]
  simp [S__law_draw, and_assoc]
  refine ⟨n, rfl, by omega, by omega, hh, fun v hd1 hv hh1 => ?_⟩
  have e1 : addD (.int 1) (nD v) = some (nD (1 + v)) := by simp [nD]
  refine ⟨_, e1, ?_⟩
  generalize hm : 1 + v = m
  simp [S__law_mixed, nD, and_assoc]
  have rl : (rngD 0 m).length ≤ 1000 := by rw [rng_nat]; simp; omega
  refine ⟨by omega, rl, hh1, fun out hd2 hp hh2 => ?_⟩
  rw [rng_nat] at hp
  obtain ⟨o, rfl, po⟩ := of_perm hp
  have nd : o.Nodup := po.nodup_iff.mpr List.nodup_range
  have lt : ∀ x, x ∈ o ↔ x < m := fun x => po.mem_iff.trans List.mem_range
  have len : o.length = m := by rw [po.length_eq]; simp
  have ix : ∀ (i : Nat) (h : i < o.length), o.idxOf o[i] = i := fun i h => nd.idxOf_getElem i h
  have rp : repL (.list [.tuple []]) (.int (m : Int)) = some (.list ((List.replicate m []).map nT)) := by
    simp only [repL, repD]
    rw [if_pos ⟨by omega, by omega, by simp [sizeLine]; omega⟩]
    simp [nT]
  refine ⟨by simp [sizeLine], _, rp, by simp [sizeLine], [.int 2, .int 3, .int 4], rfl, by simp, by simp, hh2, fun d hd0 hd3 hh3 => ?_⟩
  obtain ⟨w, ed, w0, w1⟩ : ∃ w : Nat, d = .int (w : Int) ∧ 0 < w ∧ w ≤ 4 := by
    simp at hd0
    rcases hd0 with z | z | z
    · exact ⟨2, z, by omega, by omega⟩
    · exact ⟨3, z, by omega, by omega⟩
    · exact ⟨4, z, by omega, by omega⟩
  subst ed
  refine fRun_inv (fun i s => ∃ st hd S6 S7, s = ⟨[.h, .v (.int (n : Int)), .v (.int (m : Int)), .v (.list (o.map nD)), .m (.list (st.map nT)), .v (.int (w : Int)), S6, S7, .no], hd⟩ ∧ Half o st ∧ HandD hd) ?_ ?_ ⟨_, hd3, .no, .no, rfl, ⟨by simp [len], fun j l hj => ?_⟩, hh3⟩
  · rintro i d s N hd' ⟨st, hd4, S6, S7, rfl, hf, hh4⟩ hN
    have hi : i < o.length := by simpa [enumD] using (List.getElem?_eq_some_iff.mp hd').1
    have ed : d = .tuple [nD i, nD o[i]] := by
      unfold enumD at hd'
      rw [List.getElem?_mapIdx, List.getElem?_map, List.getElem?_eq_getElem hi] at hd'
      exact (Option.some.inj hd').symm
    subst ed
    have cut : slD (.list (o.map nD)) none (some (i : Int)) = some (.list ((o.take i).map nD)) := by
      show some (PyData.list (PD.cutD _ _ _)) = _
      rw [cut_to, List.map_take]
    have ha := (lt o[i]).mp (List.getElem_mem hi)
    have hix := ix i hi
    simp [nD, and_assoc, cut]
    refine ⟨by simp [sizeLine]; omega, cRun_inv (fun j out hd => ∃ l : List Nat, out = l.map nD ∧ l.Sublist ((o.take i).take j) ∧ HandD hd) (fun j d out hd Y M hj ⟨l, eo, sl, hh⟩ y nn => ?_) (fun out hd ⟨l, eo, sl, hh⟩ => ?_) ⟨[], rfl, List.nil_sublist _, hh4⟩⟩
    · have hj2 : j < (o.take i).length := by simpa using (List.getElem?_eq_some_iff.mp hj).1
      rw [← List.map_take, List.getElem?_map, List.getElem?_eq_getElem hj2] at hj
      have ed := (Option.some.inj hj).symm
      subst ed
      have tk : (o.take i).take (j + 1) = (o.take i).take j ++ [(o.take i)[j]] := List.take_succ_eq_append_getElem hj2
      generalize (o.take i)[j] = x at tk ⊢
      simp [S__law_draw, and_assoc]
      refine ⟨w, rfl, w0, by omega, hh, fun v hd5 hv hh5 => ?_⟩
      by_cases hz : v = 0
      · subst hz
        simp [nD]
        exact y _ _ ⟨l ++ [x], by rw [eo]; simp [nD], by rw [tk]; exact sl.append (List.Sublist.refl _), hh5⟩
      · simp [nD, hz]
        exact nn _ ⟨l, eo, by rw [tk]; exact sl.trans (List.sublist_append_left _ _), hh5⟩
    · subst eo
      rw [← List.map_take, List.length_map, List.take_length] at sl
      have ndl : l.Nodup := (nd.sublist (List.take_sublist _ _)).sublist sl
      obtain ⟨r, r1, r2, r3⟩ := sorted_rise ndl
      refine ⟨_, r1, ?_⟩
      refine ⟨o[i], ixN_nat (by rw [hf.len]; omega), hN _ ⟨st.set o[i] r, hd, _, _, by rw [List.map_set]; rfl, ⟨by rw [List.length_set]; exact hf.len, fun j l2 hj => ?_⟩, hh⟩⟩
      by_cases e : o[i] = j
      · subst e
        rw [List.getElem?_set_self (by rw [hf.len]; omega)] at hj
        cases hj
        refine ⟨r2, fun x hx => ?_⟩
        have hx2 := sl.subset ((r3 x).mp hx)
        obtain ⟨k, hk, ek⟩ := List.mem_iff_getElem.mp hx2
        have hk2 : k < i ∧ k < o.length := by simpa [Nat.lt_min] using hk
        have ek2 : o[k]'hk2.2 = x := by rw [← ek]; simp
        refine ⟨(List.mem_of_mem_take hx2), ?_⟩
        rw [hix, ← ek2, ix k hk2.2]
        exact hk2.1
      · rw [List.getElem?_set_ne e] at hj
        exact hf.ok j l2 hj
  · rintro s ⟨st, hd4, S6, S7, rfl, hf, hh4⟩
    simp
    refine q st hd4 ⟨by rw [hf.len]; omega, by rw [hf.len]; omega, fun l hl => ?_, fun l hl x hx => ?_, ⟨fun x => o.idxOf x, fun j l hj x hx => ((hf.ok j l hj).2 x hx).2⟩⟩ hh4
    · obtain ⟨j, hj, e⟩ := List.mem_iff_getElem.mp hl
      exact (hf.ok j l (by rw [List.getElem?_eq_getElem hj, e])).1
    · obtain ⟨j, hj, e⟩ := List.mem_iff_getElem.mp hl
      have := ((hf.ok j l (by rw [List.getElem?_eq_getElem hj, e])).2 x hx).1
      rw [hf.len, len]
      exact (lt x).mp this
  · rw [List.getElem?_replicate] at hj
    split at hj
    · cases hj
      exact ⟨List.Pairwise.nil, fun x h => nomatch h⟩
    · cases hj
end Lw
end
section
set_option Elab.async false
set_option linter.all false
set_option maxRecDepth 100000
set_option maxHeartbeats 4000000
open PySem PySem.Spec PyProof.Rows L2 PD
namespace Lw
inductive OkS : Nat → PyData → Prop
  | int (n : Nat) (i : Int) : OkS n (.int i)
  | bool (n : Nat) (b : Bool) : OkS n (.bool b)
  | tup (n : Nat) (ds : List PyData) : ds.length ≤ 1000 → (∀ d ∈ ds, OkS n d) → OkS (n + 1) (.tuple ds)
  | lst (n : Nat) (ds : List PyData) : ds.length ≤ 1000 → (∀ d ∈ ds, OkS n d) → OkS (n + 1) (.list ds)
theorem zip_self (ds : List PyData) : zipD ds ds = ds.map fun d => .tuple [d, d] := by
  unfold zipD
  induction ds with
  | nil => rfl
  | cons d ds ih => rw [List.zip_cons_cons, List.map_cons, ih]; rfl
def sameI (d : PyData) (i : Int) : Bool := match d with
  | .int j => decide (j = i)
  | _ => false
def S_same (n : Nat) : FSpec := fun avs hd Q E => (∃ d, avs = [.d d, .d d] ∧ OkS n d ∧ Q (.bool true) hd) ∨ ∃ d i, avs = [.d d, .d (.int i)] ∧ Q (.bool (sameI d i)) hd
theorem rd__law_same (S' : FSpec) (n : Nat) (hS : ∀ m d hd Q E, n = m + 1 → OkS m d → Q (.bool true) hd → S' [.d d, .d d] hd Q E) (avs hd Q E) (h : S_same n avs hd Q E) : t__law_same S' (fnEnds false Q) ⟨initG ["one", "due", "a", "b"] avs, hd⟩ := by
  rcases h with ⟨d, rfl, o, q⟩ | ⟨d, i, rfl, q⟩
  · simp only [t__law_same]
    cases o with
    | int n i => simpa [tRn] using q
    | bool n b => simpa [tRn] using q
    | tup m ds hl hd2 =>
      simp [zip_self, and_assoc]
      refine ⟨by simp [sizeLine]; omega, cRun_of _ (fun _ => .bool true) _ (fun d h Y y => ?_) _ _ ?_⟩
      · simp [and_assoc]
        exact hS m d _ _ _ rfl (hd2 d h) y
      · simp only [List.nil_append, allD_map]
        exact ⟨_, rfl, by rw [show (ds.all fun _ => true) = true from List.all_eq_true.mpr fun _ _ => rfl]; exact q⟩
    | lst m ds hl hd2 =>
      simp [zip_self, and_assoc]
      refine ⟨by simp [sizeLine]; omega, cRun_of _ (fun _ => .bool true) _ (fun d h Y y => ?_) _ _ ?_⟩
      · simp [and_assoc]
        exact hS m d _ _ _ rfl (hd2 d h) y
      · simp only [List.nil_append, allD_map]
        exact ⟨_, rfl, by rw [show (ds.all fun _ => true) = true from List.all_eq_true.mpr fun _ _ => rfl]; exact q⟩
  · simp only [t__law_same]
    cases d with
    | int j => simpa [tRn, sameI] using q
    | bool b => simpa [tRn, sameI, PyData.isInt, PyData.isBool] using q
    | none => simpa [tRn, sameI, PyData.isInt, PyData.isBool] using q
    | str x => simpa [tRn, sameI, PyData.isInt, PyData.isBool, isNone] using q
    | list x => simpa [tRn, sameI, PyData.isInt, PyData.isBool, isNone] using q
    | tuple x => simpa [tRn, sameI, PyData.isInt, PyData.isBool, isNone] using q
    | dict x => simpa [tRn, sameI, PyData.isInt, PyData.isBool, isNone] using q
end Lw
end
section
set_option Elab.async false
set_option linter.all false
set_option maxRecDepth 100000
set_option maxHeartbeats 4000000
open PySem PySem.Spec PyProof.Rows L2 PD
namespace Lw
theorem Ok.next {st : List (List Nat)} (v : Ok st) {k : Nat} (hk : k < st.length) : ∃ a, ordN st (k + 1) = ordN st k ++ [a] ∧ a ∈ free st (ordN st k) := by
  cases e : free st (ordN st k) with
  | nil => exact absurd e (v.free_lt hk)
  | cons a l =>
    refine ⟨a, ?_, List.mem_cons_self⟩
    show ordN st k ++ (free st (ordN st k)).take 1 = _
    rw [e]; rfl
theorem at0_set {l : List Nat} {a i x : Nat} (h : a ≠ i) : at0 (l.set a x) i = at0 l i := by
  simp [at0, List.getD_eq_getElem?_getD, List.getElem?_set_ne h]
theorem at0_self {l : List Nat} {a x : Nat} (h : a < l.length) : at0 (l.set a x) a = x := by
  simp [at0, List.getD_eq_getElem?_getD, h]
/-- the ends, by what is needed -/
theorem ends_eq {st : List (List Nat)} (v : Ok st) (ts : List Nat) : ∀ k, k ≤ st.length → ∀ i ∈ ordN st k, (∀ x ∈ nds st i, x ∈ ordN st k) ∧ at0 (endsOn st ts (ordN st k)) i = at0 ts i + mx 0 ((nds st i).map (at0 (endsOn st ts (ordN st k))))
  | 0, _, i, h => nomatch h
  | k + 1, hk, i, h => by
    obtain ⟨a, ea, fa⟩ := v.next (show k < st.length by omega)
    have ih := ends_eq v ts k (by omega)
    obtain ⟨f1, f2, f3⟩ := free_mem fa
    have es : endsOn st ts (ordN st (k + 1)) = endStep st ts (endsOn st ts (ordN st k)) a := by
      rw [ea, endsOn, List.foldl_append]; rfl
    have el := endsOn_len st ts (ordN st k)
    rw [es, ea]
    generalize endsOn st ts (ordN st k) = e at ih el ⊢
    have same : ∀ l : List Nat, (∀ x ∈ l, x ∈ ordN st k) → l.map (at0 (endStep st ts e a)) = l.map (at0 e) := fun l hl => List.map_congr_left fun x hx => at0_set fun z => f2 (by rw [z]; exact hl x hx)
    rw [ea] at h
    rcases List.mem_append.mp h with q | q
    · obtain ⟨h1, h2⟩ := ih i q
      refine ⟨fun x hx => List.mem_append_left _ (h1 x hx), ?_⟩
      rw [same _ h1, endStep, at0_set fun z => f2 (by rw [z]; exact q)]
      exact h2
    · have q := List.mem_singleton.mp q
      subst q
      refine ⟨fun x hx => List.mem_append_left _ (f3 x hx), ?_⟩
      rw [same _ f3, endStep, at0_self (by omega)]
def e_ (st : List (List Nat)) (ts : List Nat) (i : Nat) : Nat := at0 (ends st ts) i
theorem e_eq {st : List (List Nat)} (v : Ok st) (ts : List Nat) {i : Nat} (hi : i < st.length) : e_ st ts i = at0 ts i + mx 0 ((nds st i).map (e_ st ts)) :=
  (ends_eq v ts st.length (Nat.le_refl _) i ((ord_all v).2.2.2 i hi)).2
theorem mx_le (l : List Nat) : ∀ (a x : Nat), x ≤ a ∨ x ∈ l ∨ (∃ y ∈ l, x ≤ y) → x ≤ mx a l := by
  unfold mx
  induction l with
  | nil =>
    intro a x h
    rcases h with h | h | ⟨y, h, _⟩
    · exact h
    · cases h
    · cases h
  | cons y l ih =>
    intro a x h
    rw [List.foldl_cons]
    refine ih _ x ?_
    rcases h with h | h | ⟨z, h, h2⟩
    · exact .inl (by omega)
    · rcases List.mem_cons.mp h with q | q
      · exact .inl (by omega)
      · exact .inr (.inl q)
    · rcases List.mem_cons.mp h with q | q
      · exact .inl (by omega)
      · exact .inr (.inr ⟨z, q, h2⟩)
theorem mx_in (l : List Nat) : ∀ a : Nat, mx a l = a ∨ mx a l ∈ l := by
  unfold mx
  induction l with
  | nil => exact fun a => .inl rfl
  | cons y l ih =>
    intro a
    rw [List.foldl_cons]
    rcases ih (max a y) with h | h
    · by_cases q : a ≤ y
      · exact .inr (by rw [h, Nat.max_eq_right q]; exact List.mem_cons_self)
      · exact .inl (by rw [h, Nat.max_eq_left (by omega)])
    · exact .inr (List.mem_cons_of_mem _ h)
/-- rows: each needed by the next one -/
inductive Row (st : List (List Nat)) : List Nat → Nat → Prop
  | one {i : Nat} : i < st.length → Row st [i] i
  | more {r : List Nat} {x i : Nat} : Row st r x → i < st.length → x ∈ nds st i → Row st (r ++ [i]) i
def sm (ts r : List Nat) : Nat := (r.map (at0 ts)).sum
theorem Row.le {st : List (List Nat)} (v : Ok st) (ts : List Nat) {r : List Nat} {i : Nat} (h : Row st r i) : sm ts r ≤ e_ st ts i := by
  induction h with
  | one hi => rw [e_eq v ts hi]; simp [sm]
  | more h hi hx ih =>
    rename_i r x i
    rw [e_eq v ts hi]
    have := mx_le ((nds st i).map (e_ st ts)) 0 (e_ st ts x) (.inr (.inl (List.mem_map.mpr ⟨x, hx, rfl⟩)))
    simp only [sm, List.map_append, List.sum_append, List.map_cons, List.map_nil, List.sum_cons, List.sum_nil] at ih ⊢
    omega
/-- .. and one of them comes to the end -/
theorem Row.ex {st : List (List Nat)} (v : Ok st) (ts : List Nat) : ∀ i, i < st.length → ∃ r, Row st r i ∧ sm ts r = e_ st ts i := by
  obtain ⟨rk, hrk⟩ := v.rank
  have go : ∀ (n i : Nat), rk i ≤ n → i < st.length → ∃ r, Row st r i ∧ sm ts r = e_ st ts i := fun n => by
    induction n with
    | zero =>
      intro i hn hi
      refine ⟨[i], .one hi, ?_⟩
      rw [e_eq v ts hi]
      rcases mx_in ((nds st i).map (e_ st ts)) 0 with h | h
      · rw [h]; simp [sm]
      · obtain ⟨x, hx, _⟩ := List.mem_map.mp h
        have := hrk i st[i] (List.getElem?_eq_getElem hi) x (by simpa [nds, List.getD_eq_getElem?_getD, hi] using hx)
        omega
    | succ n ih =>
      intro i hn hi
      rcases mx_in ((nds st i).map (e_ st ts)) 0 with h | h
      · refine ⟨[i], .one hi, ?_⟩
        rw [e_eq v ts hi, h]; simp [sm]
      · obtain ⟨x, hx, ex⟩ := List.mem_map.mp h
        have lt := hrk i st[i] (List.getElem?_eq_getElem hi) x (by simpa [nds, List.getD_eq_getElem?_getD, hi] using hx)
        obtain ⟨r, h1, h2⟩ := ih x (by omega) (v.nds_lt hx)
        refine ⟨r ++ [i], .more h1 hi hx, ?_⟩
        rw [e_eq v ts hi, ← ex, ← h2]
        simp only [sm, List.map_append, List.sum_append, List.map_cons, List.map_nil, List.sum_cons, List.sum_nil]
        omega
  exact fun i => go (rk i) i (Nat.le_refl _)
theorem Row.last {st : List (List Nat)} {r : List Nat} {i : Nat} (h : Row st r i) : i < st.length ∧ i ∈ r ∧ r ≠ [] ∧ r.getLast? = some i := by
  cases h with
  | one hi => exact ⟨hi, by simp, by simp, by simp⟩
  | more h hi hx => exact ⟨hi, by simp, by simp, by simp⟩
/-- a row's stages rise in rank -/
theorem Row.rank {st : List (List Nat)} {rk : Nat → Nat} (hrk : ∀ (i : Nat) (l : List Nat), st[i]? = some l → ∀ x ∈ l, rk x < rk i) {r : List Nat} {i : Nat} (h : Row st r i) : (∀ x ∈ r, x < st.length ∧ rk x ≤ rk i) ∧ r.Pairwise (fun a b => rk a < rk b) := by
  induction h with
  | one hi => exact ⟨fun x hx => by rw [List.mem_singleton.mp hx]; exact ⟨hi, Nat.le_refl _⟩, by simp⟩
  | more h hi hx ih =>
    rename_i r x i
    have lt := hrk i st[i] (List.getElem?_eq_getElem hi) x (by simpa [nds, List.getD_eq_getElem?_getD, hi] using hx)
    refine ⟨fun y hy => ?_, List.pairwise_append.mpr ⟨ih.2, by simp, fun a ha b hb => ?_⟩⟩
    · rcases List.mem_append.mp hy with q | q
      · have := ih.1 y q
        exact ⟨this.1, by omega⟩
      · rw [List.mem_singleton.mp q]; exact ⟨hi, Nat.le_refl _⟩
    · rw [List.mem_singleton.mp hb]
      have := ih.1 a ha
      omega
theorem Row.nodup {st : List (List Nat)} (v : Ok st) {r : List Nat} {i : Nat} (h : Row st r i) : r.Nodup := by
  obtain ⟨rk, hrk⟩ := v.rank
  exact (h.rank hrk).2.imp fun h e => by rw [e] at h; exact Nat.lt_irrefl _ h
/-- what goes on behind a stage -/
inductive Tail (st : List (List Nat)) : Nat → List Nat → Nat → Prop
  | nil {i : Nat} : Tail st i [] i
  | cons {i j k : Nat} {r : List Nat} : j < st.length → i ∈ nds st j → Tail st j r k → Tail st i (j :: r) k
theorem Tail.row {st : List (List Nat)} {i k : Nat} {r2 : List Nat} (t : Tail st i r2 k) : ∀ {r1 : List Nat}, Row st r1 i → Row st (r1 ++ r2) k := by
  induction t with
  | nil => intro r1 h; rw [List.append_nil]; exact h
  | cons hj hi t ih =>
    intro r1 h
    rw [List.append_cons]
    exact ih (.more h hj hi)
theorem Tail.snoc {st : List (List Nat)} {i k j : Nat} {r : List Nat} (t : Tail st i r k) (hj : j < st.length) (hk : k ∈ nds st j) : Tail st i (r ++ [j]) j := by
  induction t with
  | nil => exact .cons hj hk .nil
  | cons h1 h2 t ih => exact .cons h1 h2 (ih hk)
/-- a row parted at one of its stages -/
theorem Row.split {st : List (List Nat)} {r : List Nat} {k : Nat} (h : Row st r k) : ∀ a ∈ r, ∃ r1 r2, r = r1 ++ r2 ∧ Row st r1 a ∧ Tail st a r2 k := by
  induction h with
  | one hi =>
    intro a ha
    rw [List.mem_singleton.mp ha]
    exact ⟨_, [], (List.append_nil _).symm, .one hi, .nil⟩
  | more h hi hx ih =>
    rename_i r x i
    intro a ha
    rcases List.mem_append.mp ha with q | q
    · obtain ⟨r1, r2, e, h1, h2⟩ := ih a q
      exact ⟨r1, r2 ++ [i], by rw [e, List.append_assoc], h1, h2.snoc hi hx⟩
    · rw [List.mem_singleton.mp q]
      exact ⟨r ++ [i], [], (List.append_nil _).symm, .more h hi hx, .nil⟩
end Lw
end
section
set_option Elab.async false
set_option linter.all false
set_option maxRecDepth 100000
set_option maxHeartbeats 4000000
open PySem PySem.Spec PyProof.Rows L2 PD
namespace Lw
theorem topo {st : List (List Nat)} (v : Ok st) : ∀ k, k ≤ st.length → ∀ (p s : List Nat) (j : Nat), ordN st k = p ++ j :: s → ∀ x ∈ nds st j, x ∈ p
  | 0, _, p, s, j, e, _, _ => by
    have := congrArg List.length e
    simp [ordN] at this
  | k + 1, hk, p, s, j, e, x, hx => by
    obtain ⟨a, ea, fa⟩ := v.next (show k < st.length by omega)
    rw [ea] at e
    rcases List.eq_nil_or_concat s with z | ⟨s0, b, z⟩
    · subst z
      obtain ⟨e1, e2⟩ := List.append_inj' e rfl
      cases e2
      rw [← e1]
      exact (free_mem fa).2.2 x hx
    · subst z
      rw [List.concat_eq_append, ← List.cons_append, ← List.append_assoc] at e
      obtain ⟨e1, _⟩ := List.append_inj' e rfl
      exact topo v k (by omega) p s0 j e1 x hx
theorem ord_lt {st : List (List Nat)} (v : Ok st) {i j : Nat} (hj : j < st.length) (hi : i ∈ nds st j) : (ord st).idxOf i < (ord st).idxOf j := by
  obtain ⟨nd, _, _, all⟩ := ord_all v
  have hm := all j hj
  have hk : (ord st).idxOf j < (ord st).length := List.idxOf_lt_length_of_mem hm
  have ej : (ord st)[(ord st).idxOf j] = j := List.getElem_idxOf hk
  have dec : ord st = (ord st).take ((ord st).idxOf j) ++ (ord st)[(ord st).idxOf j] :: (ord st).drop ((ord st).idxOf j + 1) := by
    rw [← List.drop_eq_getElem_cons hk, List.take_append_drop]
  rw [ej] at dec
  have := topo v st.length (Nat.le_refl _) _ _ _ dec i hi
  obtain ⟨m, hm2, em⟩ := List.mem_iff_getElem.mp this
  have hm3 : m < (ord st).idxOf j ∧ m < (ord st).length := by simpa [Nat.lt_min] using hm2
  have em2 : (ord st)[m]'hm3.2 = i := by rw [← em]; simp
  have : (ord st).idxOf i = m := by rw [← em2]; exact nd.idxOf_getElem m hm3.2
  omega
def gr : List Nat → Nat
  | [] => 0
  | x :: l => mx x l
theorem le_gr {l : List Nat} {x : Nat} (h : x ∈ l) : x ≤ gr l := by
  cases l with
  | nil => cases h
  | cons y l =>
    rcases List.mem_cons.mp h with q | q
    · exact mx_le l y x (.inl (by omega))
    · exact mx_le l y x (.inr (.inl q))
theorem gr_mem {l : List Nat} (h : l ≠ []) : gr l ∈ l := by
  cases l with
  | nil => exact absurd rfl h
  | cons y l =>
    rcases mx_in l y with q | q
    · show mx y l ∈ _
      rw [q]; exact List.mem_cons_self
    · exact List.mem_cons_of_mem _ q
theorem ends_len (st : List (List Nat)) (ts : List Nat) : (ends st ts).length = st.length := endsOn_len _ _ _
theorem e_mem {st : List (List Nat)} {ts : List Nat} {i : Nat} (hi : i < st.length) : e_ st ts i ∈ ends st ts := by
  have h : i < (ends st ts).length := by rw [ends_len]; exact hi
  have : e_ st ts i = (ends st ts)[i] := by simp [e_, at0, List.getD_eq_getElem?_getD, h]
  rw [this]
  exact List.getElem_mem h
end Lw
end
section
set_option Elab.async false
set_option linter.all false
set_option maxRecDepth 100000
set_option maxHeartbeats 4000000
open PySem PySem.Spec PyProof.Rows L2 PD
namespace Lw
/-! plans: o the stages placed so far, f their begins -/
def works (ts : List Nat) (f : Nat → Nat) (m i : Nat) : Bool := decide (f i ≤ m ∧ m < f i + at0 ts i)
def cnt (ts o : List Nat) (f : Nat → Nat) (m : Nat) : Nat := (o.filter (works ts f m)).length
def isLet (ts : List Nat) (h : Nat) (o : List Nat) (f : Nat → Nat) : Bool := o.all fun i => decide (cnt ts o f (f i) ≤ h)
def upf (f : Nat → Nat) (i m : Nat) : Nat → Nat := fun j => if j = i then m else f j
def letm (ts : List Nat) (h : Nat) (o : List Nat) (f : Nat → Nat) (i m : Nat) : Bool := isLet ts h (o ++ [i]) (upf f i m)
def srt (l : List Nat) : List Nat := l.mergeSort fun a b => decide (a ≤ b)
def beg (st : List (List Nat)) (ts : List Nat) (f : Nat → Nat) (i : Nat) : Nat := mx 0 ((nds st i).map fun x => f x + at0 ts x)
def cands (st : List (List Nat)) (ts o : List Nat) (f : Nat → Nat) (i : Nat) : List Nat := beg st ts f i :: (o.map fun j => f j + at0 ts j).filter fun e => decide (beg st ts f i < e)
def moms (st : List (List Nat)) (ts o : List Nat) (f : Nat → Nat) (i : Nat) : List Nat := srt (cands st ts o f i)
def pick (st : List (List Nat)) (ts : List Nat) (h : Nat) (o : List Nat) (f : Nat → Nat) (i : Nat) : Nat := ((moms st ts o f i).find? (letm ts h o f i)).getD 0
def run (st : List (List Nat)) (ts : List Nat) (h : Nat) : List Nat → List Nat → (Nat → Nat) → Nat → Nat
  | [], _, f => f
  | i :: l, o, f => run st ts h l (o ++ [i]) (upf f i (pick st ts h o f i))
def planF (st : List (List Nat)) (ts : List Nat) (h : Nat) (o : List Nat) : Nat → Nat := run st ts h o [] fun _ => 0
def planL (st : List (List Nat)) (ts : List Nat) (h : Nat) (o : List Nat) : List Nat := (List.range st.length).map (planF st ts h o)
structure Good (st : List (List Nat)) (ts : List Nat) (h : Nat) (o : List Nat) (f : Nat → Nat) : Prop where
  nd : o.Nodup
  need : ∀ i ∈ o, ∀ x ∈ nds st i, x ∈ o ∧ f x + at0 ts x ≤ f i
  few : ∀ i ∈ o, cnt ts o f (f i) ≤ h
section
variable {st : List (List Nat)} {ts o : List Nat} {h : Nat} {f : Nat → Nat}
theorem srt_mem {l : List Nat} {x : Nat} : x ∈ srt l ↔ x ∈ l := (List.mergeSort_perm l _).mem_iff
theorem srt_le (l : List Nat) : (srt l).Pairwise (· ≤ ·) := by
  have := List.pairwise_mergeSort (le := fun a b : Nat => decide (a ≤ b)) (fun a b c h1 h2 => by simp at *; omega) (fun a b => by simp; omega) l
  exact this.imp fun h => by simpa using h
/-- the latest begin among those at work -/
theorem latest (f : Nat → Nat) : ∀ l : List Nat, l ≠ [] → ∃ x ∈ l, ∀ y ∈ l, f y ≤ f x
  | [], h => absurd rfl h
  | [x], _ => ⟨x, by simp, by simp⟩
  | x :: y :: l, _ => by
    obtain ⟨z, h1, h2⟩ := latest f (y :: l) (by simp)
    by_cases q : f z ≤ f x
    · refine ⟨x, by simp, fun w hw => ?_⟩
      rcases List.mem_cons.mp hw with e | e
      · rw [e]; exact Nat.le_refl _
      · exact Nat.le_trans (h2 w e) q
    · refine ⟨z, List.mem_cons_of_mem _ h1, fun w hw => ?_⟩
      rcases List.mem_cons.mp hw with e | e
      · rw [e]; omega
      · exact h2 w e
theorem filter_le {p q : Nat → Bool} : ∀ l : List Nat, (∀ x ∈ l, p x = true → q x = true) → (l.filter p).length ≤ (l.filter q).length
  | [], _ => Nat.le_refl _
  | x :: l, h => by
    have ih := filter_le (p := p) (q := q) l fun y hy => h y (List.mem_cons_of_mem _ hy)
    have hx := h x List.mem_cons_self
    rw [List.filter_cons, List.filter_cons]
    cases e : p x with
    | false =>
      cases q x with
      | false => simpa using ih
      | true => simp; omega
    | true =>
      rw [hx e]
      simp; exact ih
theorem cnt_mono {m m' : Nat} (w : ∀ x ∈ o, works ts f m x = true → works ts f m' x = true) : cnt ts o f m ≤ cnt ts o f m' := filter_le o w
theorem cnt_le (few : ∀ i ∈ o, cnt ts o f (f i) ≤ h) (m : Nat) : cnt ts o f m ≤ h := by
  by_cases e : o.filter (works ts f m) = []
  · unfold cnt; rw [e]; exact Nat.zero_le _
  · obtain ⟨x, h1, h2⟩ := latest f _ e
    obtain ⟨h3, h4⟩ := List.mem_filter.mp h1
    refine Nat.le_trans (cnt_mono fun y hy hw => ?_) (few x h3)
    have := h2 y (List.mem_filter.mpr ⟨hy, hw⟩)
    unfold works at *
    simp at *
    omega
theorem works_upf {i m x m' : Nat} (hx : x ≠ i) : works ts (upf f i m) m' x = works ts f m' x := by
  unfold works upf
  rw [if_neg hx]
theorem cnt_snoc {i m : Nat} (hi : i ∉ o) (m' : Nat) : cnt ts (o ++ [i]) (upf f i m) m' = cnt ts o f m' + if m ≤ m' ∧ m' < m + at0 ts i then 1 else 0 := by
  unfold cnt
  rw [List.filter_append, List.length_append]
  congr 1
  · congr 1
    exact List.filter_congr fun x hx => works_upf fun e => hi (by rw [← e]; exact hx)
  · have : works ts (upf f i m) m' i = decide (m ≤ m' ∧ m' < m + at0 ts i) := by unfold works upf; rw [if_pos rfl]
    rw [List.filter_cons, this]
    by_cases q : m ≤ m' ∧ m' < m + at0 ts i
    · rw [if_pos q, decide_eq_true q]; rfl
    · rw [if_neg q, decide_eq_false q]; rfl
/-- a stage may begin at m exactly if there is a hand at each time it is worked at -/
theorem letm_iff (few : ∀ i ∈ o, cnt ts o f (f i) ≤ h) {i m : Nat} (hi : i ∉ o) : letm ts h o f i m = true ↔ ∀ m', m ≤ m' → m' < m + at0 ts i → cnt ts o f m' + 1 ≤ h := by
  have self : upf f i m i = m := by unfold upf; rw [if_pos rfl]
  unfold letm isLet
  rw [List.all_eq_true]
  constructor
  · intro hl m' h1 h2
    -- the latest begin at or ahead of m', at m or behind it
    by_cases e : (o.filter fun j => works ts f m' j && decide (m ≤ f j)) = []
    · have z := hl i (by simp)
      rw [self, cnt_snoc hi, if_pos ⟨Nat.le_refl _, by omega⟩] at z
      have := cnt_mono (ts := ts) (o := o) (f := f) (m := m') (m' := m) fun x hx hw => by
        have : ¬ m ≤ f x := fun q => by
          have : x ∈ o.filter fun j => works ts f m' j && decide (m ≤ f j) := List.mem_filter.mpr ⟨hx, by rw [hw]; simpa using q⟩
          rw [e] at this; cases this
        unfold works at *
        simp at *
        omega
      have z : cnt ts o f m + 1 ≤ h := by simpa using z
      omega
    · obtain ⟨x, q1, q2⟩ := latest f _ e
      obtain ⟨q3, q4⟩ := List.mem_filter.mp q1
      have q4 : works ts f m' x = true ∧ m ≤ f x := by simpa using q4
      have nx : x ≠ i := fun z => hi (by rw [← z]; exact q3)
      have z := hl x (by simp [q3])
      have ux : upf f i m x = f x := by unfold upf; rw [if_neg nx]
      have wx : f x ≤ m' := by have := q4.1; unfold works at this; simp at this; omega
      rw [ux, cnt_snoc hi, if_pos ⟨q4.2, by omega⟩] at z
      have := cnt_mono (ts := ts) (o := o) (f := f) (m := m') (m' := f x) fun y hy hw => by
        by_cases q : m ≤ f y
        · have := q2 y (List.mem_filter.mpr ⟨hy, by rw [hw]; simpa using q⟩)
          unfold works at *
          simp at *
          omega
        · unfold works at *
          simp at *
          omega
      have z : cnt ts o f (f x) + 1 ≤ h := by simpa using z
      omega
  · intro hm j hj
    rw [decide_eq_true_eq, cnt_snoc hi]
    by_cases q : m ≤ upf f i m j ∧ upf f i m j < m + at0 ts i
    · rw [if_pos q]; exact hm _ q.1 q.2
    · rw [if_neg q]; exact cnt_le few _
theorem Good.snoc (g : Good st ts h o f) {i m : Nat} (hi : i ∉ o) (hn : ∀ x ∈ nds st i, x ∈ o) (hb : beg st ts f i ≤ m) (hl : letm ts h o f i m = true) : Good st ts h (o ++ [i]) (upf f i m) := by
  have old : ∀ x ∈ o, upf f i m x = f x := fun x hx => by unfold upf; rw [if_neg fun z => hi (by rw [← z]; exact hx)]
  have self : upf f i m i = m := by unfold upf; rw [if_pos rfl]
  refine ⟨List.nodup_append.mpr ⟨g.nd, by simp, fun a ha b hb z => hi (by rw [List.mem_singleton.mp hb] at z; rw [← z]; exact ha)⟩, fun j hj x hx => ?_, fun j hj => ?_⟩
  · rcases List.mem_append.mp hj with q | q
    · obtain ⟨h1, h2⟩ := g.need j q x hx
      exact ⟨List.mem_append_left _ h1, by rw [old x h1, old j q]; exact h2⟩
    · have q := List.mem_singleton.mp q
      subst q
      have h1 := hn x hx
      refine ⟨List.mem_append_left _ h1, ?_⟩
      rw [old x h1, self]
      have := mx_le ((nds st j).map fun x => f x + at0 ts x) 0 (f x + at0 ts x) (.inr (.inl (List.mem_map.mpr ⟨x, hx, rfl⟩)))
      unfold beg at hb
      omega
  · unfold letm isLet at hl
    have := List.all_eq_true.mp hl j hj
    simpa using this
theorem beg_cand (i : Nat) : beg st ts f i ∈ cands st ts o f i := List.mem_cons_self
theorem cand_ge {i e : Nat} (he : e ∈ cands st ts o f i) : beg st ts f i ≤ e := by
  rcases List.mem_cons.mp he with q | q
  · rw [q]; exact Nat.le_refl _
  · have := (List.mem_filter.mp q).2
    simp at this; omega
theorem end_cand {i j : Nat} (hj : j ∈ o) (hb : beg st ts f i < f j + at0 ts j) : f j + at0 ts j ∈ cands st ts o f i :=
  List.mem_cons_of_mem _ (List.mem_filter.mpr ⟨List.mem_map.mpr ⟨j, hj, rfl⟩, by simpa using hb⟩)
/-- behind the last end there is room -/
theorem room_last (few : ∀ i ∈ o, cnt ts o f (f i) ≤ h) (h1 : 1 ≤ h) {i : Nat} (hi : i ∉ o) : ∃ m ∈ cands st ts o f i, letm ts h o f i m = true := by
  obtain ⟨m, hm, top⟩ := latest id (cands st ts o f i) (by simp [cands])
  refine ⟨m, hm, (letm_iff few hi).mpr fun m' q1 q2 => ?_⟩
  have : cnt ts o f m' = 0 := by
    unfold cnt
    rw [List.length_eq_zero_iff, List.filter_eq_nil_iff]
    intro j hj hw
    unfold works at hw
    simp at hw
    have b := cand_ge hm
    have := top _ (end_cand (st := st) (i := i) hj (by omega))
    simp at this
    omega
  omega
/-- what is picked -/
theorem pick_ok (few : ∀ i ∈ o, cnt ts o f (f i) ≤ h) (h1 : 1 ≤ h) {i : Nat} (hi : i ∉ o) : (moms st ts o f i).find? (letm ts h o f i) = some (pick st ts h o f i) ∧ pick st ts h o f i ∈ cands st ts o f i ∧ letm ts h o f i (pick st ts h o f i) = true := by
  cases e : (moms st ts o f i).find? (letm ts h o f i) with
  | none =>
    obtain ⟨m, h2, h3⟩ := room_last (st := st) few h1 hi
    have := List.find?_eq_none.mp e m (srt_mem.mpr h2)
    exact absurd h3 this
  | some m =>
    have ep : pick st ts h o f i = m := by unfold pick; rw [e]; rfl
    rw [ep]
    exact ⟨rfl, srt_mem.mp (List.mem_of_find?_eq_some e), List.find?_some e⟩
/-- it is the first one that may be -/
theorem find_first {p : Nat → Bool} : ∀ {l : List Nat} {m : Nat}, l.Pairwise (· ≤ ·) → l.find? p = some m → ∀ x ∈ l, p x = true → m ≤ x
  | [], _, _, e, _, _, _ => by cases e
  | y :: l, m, hp, e, x, hx, px => by
    obtain ⟨h1, h2⟩ := List.pairwise_cons.mp hp
    rw [List.find?_cons] at e
    cases q : p y with
    | true =>
      rw [q] at e
      cases e
      rcases List.mem_cons.mp hx with z | z
      · rw [z]; exact Nat.le_refl _
      · exact h1 x z
    | false =>
      rw [q] at e
      rcases List.mem_cons.mp hx with z | z
      · rw [z, q] at px; cases px
      · exact find_first h2 e x z px
end
/-- an order that keeps what is needed -/
structure Topo (st : List (List Nat)) (o : List Nat) : Prop where
  perm : o.Perm (List.range st.length)
  need : ∀ p i s, o = p ++ i :: s → ∀ x ∈ nds st i, x ∈ p
theorem run_good {st : List (List Nat)} {ts : List Nat} {h : Nat} (h1 : 1 ≤ h) : ∀ (l o : List Nat) (f : Nat → Nat), Good st ts h o f → (o ++ l).Nodup → (∀ p i s, o ++ l = p ++ i :: s → ∀ x ∈ nds st i, x ∈ p) → Good st ts h (o ++ l) (run st ts h l o f)
  | [], o, f, g, _, _ => by rw [List.append_nil]; exact g
  | i :: l, o, f, g, nd, need => by
    have hi : i ∉ o := fun z => (List.nodup_append.mp nd).2.2 i z i List.mem_cons_self rfl
    have hn := need o i l rfl
    obtain ⟨p1, p2, p3⟩ := pick_ok (st := st) g.few h1 hi
    have g2 := g.snoc hi hn (cand_ge p2) p3
    have := run_good h1 l (o ++ [i]) _ g2 (by simpa using nd) (by simpa using need)
    rw [List.append_assoc] at this
    exact this
theorem Topo.good {st : List (List Nat)} {ts : List Nat} {h : Nat} (h1 : 1 ≤ h) {o : List Nat} (t : Topo st o) : Good st ts h o (planF st ts h o) := by
  have := run_good (st := st) (ts := ts) h1 o [] (fun _ => 0) ⟨List.nodup_nil, (fun _ h => nomatch h), (fun _ h => nomatch h)⟩ (by rw [List.nil_append]; exact t.perm.nodup_iff.mpr List.nodup_range) (by simpa using t.need)
  rw [List.nil_append] at this
  exact this
end Lw
end
section
set_option Elab.async false
set_option linter.all false
set_option maxRecDepth 100000
set_option maxHeartbeats 4000000
open PySem PySem.Spec PyProof.Rows L2 PD
namespace Lw
def endF (ts o : List Nat) (f : Nat → Nat) : Nat := mx 0 (o.map fun i => f i + at0 ts i)
theorem endF_le {ts o : List Nat} {f : Nat → Nat} {i : Nat} (hi : i ∈ o) : f i + at0 ts i ≤ endF ts o f := mx_le _ 0 _ (.inr (.inl (List.mem_map.mpr ⟨i, hi, rfl⟩)))
theorem endF_least {ts o : List Nat} {f : Nat → Nat} {b : Nat} (h : ∀ i ∈ o, f i + at0 ts i ≤ b) : endF ts o f ≤ b := by
  rcases mx_in (o.map fun i => f i + at0 ts i) 0 with q | q
  · unfold endF; rw [q]; exact Nat.zero_le _
  · obtain ⟨i, hi, e⟩ := List.mem_map.mp q
    unfold endF; rw [← e]; exact h i hi
/-- all times together are no more than the hands can do -/
theorem count_range (a b : Nat) : ∀ E, b ≤ E → a ≤ b → ((List.range E).filter fun m => decide (a ≤ m ∧ m < b)).length = b - a
  | 0, h, _ => by simp; omega
  | E + 1, h, hab => by
    rw [List.range_succ, List.filter_append, List.length_append]
    by_cases e : b = E + 1
    · subst e
      by_cases z : a = E + 1
      · subst z
        rw [List.filter_eq_nil_iff.mpr (fun x hx => by have := List.mem_range.mp hx; simp)]
        simp
      · have : ((List.range E).filter fun m => decide (a ≤ m ∧ m < E + 1)) = (List.range E).filter fun m => decide (a ≤ m ∧ m < E) := List.filter_congr fun x hx => by
          have := List.mem_range.mp hx
          exact decide_eq_decide.mpr (by omega)
        have one : ([E].filter fun m => decide (a ≤ m ∧ m < E + 1)) = [E] := by
          rw [List.filter_cons, if_pos (by simp; omega)]; rfl
        rw [this, count_range a E E (Nat.le_refl _) (by omega), one, List.length_singleton]
        omega
    · have none' : ([E].filter fun m => decide (a ≤ m ∧ m < b)) = [] := by
        rw [List.filter_cons, if_neg (by simp; omega)]; rfl
      rw [count_range a b E (by omega) hab, none']
      rfl
theorem sum_cnt (ts : List Nat) (f : Nat → Nat) (E : Nat) : ∀ o : List Nat, (∀ i ∈ o, f i + at0 ts i ≤ E) → ((List.range E).map (cnt ts o f)).sum = (o.map (at0 ts)).sum
  | [], _ => by
    have : (List.range E).map (cnt ts [] f) = (List.range E).map fun _ => 0 := rfl
    have z : ∀ l : List Nat, (l.map fun _ => 0).sum = 0 := fun l => by
      induction l with
      | nil => rfl
      | cons x l ih => rw [List.map_cons, List.sum_cons, ih]
    rw [this, z]
    rfl
  | i :: o, h => by
    have ih := sum_cnt ts f E o fun j hj => h j (List.mem_cons_of_mem _ hj)
    have hi := h i List.mem_cons_self
    have e : ∀ m, cnt ts (i :: o) f m = (if f i ≤ m ∧ m < f i + at0 ts i then 1 else 0) + cnt ts o f m := fun m => by
      unfold cnt
      rw [List.filter_cons]
      unfold works
      by_cases q : f i ≤ m ∧ m < f i + at0 ts i
      · rw [if_pos (decide_eq_true q), if_pos q, List.length_cons]; omega
      · rw [if_neg (by simpa using q), if_neg q]; omega
    have s : ∀ (l : List Nat) (p q : Nat → Nat), (l.map fun m => p m + q m).sum = (l.map p).sum + (l.map q).sum := fun l p q => by
      induction l with
      | nil => rfl
      | cons x l ih => simp only [List.map_cons, List.sum_cons, ih]; omega
    have c : ∀ (l : List Nat) (p : Nat → Prop) [DecidablePred p], (l.map fun m => if p m then 1 else 0).sum = (l.filter fun m => decide (p m)).length := fun l p _ => by
      induction l with
      | nil => rfl
      | cons x l ih =>
        rw [List.map_cons, List.sum_cons, ih, List.filter_cons]
        by_cases q : p x
        · rw [if_pos q, if_pos (decide_eq_true q), List.length_cons]; omega
        · rw [if_neg q, if_neg (by simpa using q)]; omega
    have : (List.range E).map (cnt ts (i :: o) f) = (List.range E).map fun m => (if f i ≤ m ∧ m < f i + at0 ts i then 1 else 0) + cnt ts o f m := List.map_congr_left fun m _ => e m
    rw [this, s, ih, c, count_range _ _ E hi (by omega), List.map_cons, List.sum_cons]
    omega
theorem area {ts o : List Nat} {f : Nat → Nat} {h : Nat} (few : ∀ i ∈ o, cnt ts o f (f i) ≤ h) : (o.map (at0 ts)).sum ≤ endF ts o f * h := by
  rw [← sum_cnt ts f (endF ts o f) o fun i hi => endF_le hi]
  have go : ∀ l : List Nat, (l.map (cnt ts o f)).sum ≤ l.length * h := fun l => by
    induction l with
    | nil => simp
    | cons x l ih =>
      rw [List.map_cons, List.sum_cons, List.length_cons, Nat.succ_mul]
      have := cnt_le few x
      omega
  have := go (List.range (endF ts o f))
  simpa using this
section
variable {st : List (List Nat)} {ts : List Nat}
theorem Topo.mem {o : List Nat} (t : Topo st o) {i : Nat} : i ∈ o ↔ i < st.length := t.perm.mem_iff.trans List.mem_range
theorem Topo.nd {o : List Nat} (t : Topo st o) : o.Nodup := t.perm.nodup_iff.mpr List.nodup_range
/-- no end comes ahead of the earliest -/
theorem e_le_end (v : Ok st) {h : Nat} {o : List Nat} (t : Topo st o) {f : Nat → Nat} (g : Good st ts h o f) : ∀ i, i < st.length → e_ st ts i ≤ f i + at0 ts i := by
  obtain ⟨rk, hrk⟩ := v.rank
  have go : ∀ (n i : Nat), rk i ≤ n → i < st.length → e_ st ts i ≤ f i + at0 ts i := fun n => by
    induction n with
    | zero =>
      intro i hn hi
      rw [e_eq v ts hi]
      rcases mx_in ((nds st i).map (e_ st ts)) 0 with h | h
      · rw [h]; omega
      · obtain ⟨x, hx, _⟩ := List.mem_map.mp h
        have := hrk i st[i] (List.getElem?_eq_getElem hi) x (by simpa [nds, List.getD_eq_getElem?_getD, hi] using hx)
        omega
    | succ n ih =>
      intro i hn hi
      rw [e_eq v ts hi]
      rcases mx_in ((nds st i).map (e_ st ts)) 0 with h | h
      · rw [h]; omega
      · obtain ⟨x, hx, ex⟩ := List.mem_map.mp h
        have lt := hrk i st[i] (List.getElem?_eq_getElem hi) x (by simpa [nds, List.getD_eq_getElem?_getD, hi] using hx)
        have h1 := ih x (by omega) (v.nds_lt hx)
        have h2 := (g.need i (t.mem.mpr hi) x hx).2
        omega
  exact fun i => go (rk i) i (Nat.le_refl _)
/-- a plan P that keeps the hands; an order along its begins is no later anywhere -/
theorem run_le {h : Nat} (h1 : 1 ≤ h) {P : Nat → Nat} {al : List Nat} (gP : Good st ts h al P) : ∀ (l o : List Nat) (f : Nat → Nat), Good st ts h o f → (o ++ l).Nodup → (∀ x ∈ o ++ l, x ∈ al) → (∀ p i s, o ++ l = p ++ i :: s → (∀ x ∈ nds st i, x ∈ p) ∧ ∀ x ∈ p, P x ≤ P i) → (∀ x ∈ o, f x ≤ P x) → ∀ x ∈ o ++ l, run st ts h l o f x ≤ P x
  | [], o, f, _, _, _, _, hle => by simpa [run] using hle
  | i :: l, o, f, g, nd, sub, ord, hle => by
    have hi : i ∉ o := fun z => (List.nodup_append.mp nd).2.2 i z i List.mem_cons_self rfl
    obtain ⟨hn, hP⟩ := ord o i l rfl
    obtain ⟨p1, p2, p3⟩ := pick_ok (st := st) g.few h1 hi
    have g2 := g.snoc hi hn (cand_ge p2) p3
    have key : pick st ts h o f i ≤ P i := by
      -- the latest candidate at or ahead of P i
      have bP : beg st ts f i ≤ P i := by
        rcases mx_in ((nds st i).map fun x => f x + at0 ts x) 0 with q | q
        · unfold beg; rw [q]; exact Nat.zero_le _
        · obtain ⟨x, hx, e⟩ := List.mem_map.mp q
          have a1 := (gP.need i (sub i (by simp)) x hx).2
          have a2 := hle x (hn x hx)
          unfold beg; rw [← e]; omega
      obtain ⟨y, hy, top⟩ := latest id ((cands st ts o f i).filter fun e => decide (e ≤ P i)) (List.ne_nil_of_mem (a := beg st ts f i) (List.mem_filter.mpr ⟨beg_cand i, by simpa using bP⟩))
      obtain ⟨y1, y2⟩ := List.mem_filter.mp hy
      have y2 : y ≤ P i := by simpa using y2
      have by_ := cand_ge y1
      refine Nat.le_trans (find_first (srt_le _) p1 y (srt_mem.mpr y1) ((letm_iff g.few hi).mpr fun m q1 q2 => ?_)) y2
      -- at each time m that i would be worked at
      have alP : ∀ x ∈ o ++ [i], x ∈ al := fun x hx => sub x (by
        rcases List.mem_append.mp hx with z | z
        · exact List.mem_append_left _ z
        · rw [List.mem_singleton.mp z]; simp)
      have sublen : ∀ m' : Nat, (∀ x ∈ o, works ts f m x = true → works ts P m' x = true) → works ts P m' i = true → cnt ts o f m + 1 ≤ h := fun m' w wi => by
        have c1 := cnt_le gP.few m'
        have ndo : ((o.filter (works ts f m)) ++ [i]).Nodup := List.nodup_append.mpr ⟨g.nd.sublist List.filter_sublist, by simp, fun a ha b hb z => hi (by rw [List.mem_singleton.mp hb] at z; rw [← z]; exact (List.mem_filter.mp ha).1)⟩
        have sb : ((o.filter (works ts f m)) ++ [i]) ⊆ al.filter (works ts P m') := fun x hx => by
          rcases List.mem_append.mp hx with z | z
          · obtain ⟨z1, z2⟩ := List.mem_filter.mp z
            exact List.mem_filter.mpr ⟨alP x (List.mem_append_left _ z1), w x z1 z2⟩
          · have z := List.mem_singleton.mp z
            subst z
            exact List.mem_filter.mpr ⟨alP x (by simp), wi⟩
        have := ndo.length_le_of_subset sb
        rw [List.length_append] at this
        unfold cnt at *
        simp at this
        omega
      by_cases q3 : m ≤ P i
      · refine sublen (P i) (fun x hx hw => ?_) (by unfold works; simp; omega)
        have a1 := hle x hx
        have a2 := hP x hx
        have : ¬ f x + at0 ts x ≤ P i := fun z => by
          have e1 : y < f x + at0 ts x := by unfold works at hw; simp at hw; omega
          have := top _ (List.mem_filter.mpr ⟨end_cand (st := st) (i := i) hx (by omega), by simpa using z⟩)
          simp at this
          omega
        unfold works at *
        simp at *
        omega
      · refine sublen m (fun x hx hw => ?_) (by unfold works; simp; omega)
        have a1 := hle x hx
        have a2 := hP x hx
        unfold works at *
        simp at *
        omega
    have := run_le h1 gP l (o ++ [i]) _ g2 (by simpa using nd) (by simpa using sub) (by simpa using ord) (fun x hx => by
      rcases List.mem_append.mp hx with z | z
      · unfold upf; rw [if_neg fun e => hi (by rw [← e]; exact z)]; exact hle x z
      · rw [List.mem_singleton.mp z]; unfold upf; rw [if_pos rfl]; exact key)
    rw [List.append_assoc] at this
    exact this
/-- an order along the begins of a plan -/
theorem along (v : Ok st) {P : Nat → Nat} (hP : ∀ j, j < st.length → ∀ x ∈ nds st j, P x ≤ P j) : ∃ o, Topo st o ∧ ∀ p i s, o = p ++ i :: s → ∀ x ∈ p, P x ≤ P i := by
  let le : Nat → Nat → Bool := fun a b => decide (P a < P b ∨ (P a = P b ∧ (ord st).idxOf a ≤ (ord st).idxOf b))
  have pm : ((List.range st.length).mergeSort le).Perm (List.range st.length) := List.mergeSort_perm _ _
  have pw := List.pairwise_mergeSort (le := le) (fun a b c h1 h2 => by simp [le] at *; omega) (fun a b => by simp [le]; omega) (List.range st.length)
  have ix : ∀ p i s, (List.range st.length).mergeSort le = p ++ i :: s → (∀ x ∈ p, le x i = true) ∧ ∀ x ∈ s, le i x = true := fun p i s e => by
    rw [e] at pw
    obtain ⟨_, h2, h3⟩ := List.pairwise_append.mp pw
    exact ⟨fun x hx => h3 x hx i List.mem_cons_self, (List.pairwise_cons.mp h2).1⟩
  refine ⟨(List.range st.length).mergeSort le, ⟨pm, fun p i s e x hx => ?_⟩, fun p i s e x hx => ?_⟩
  · have hi : i < st.length := List.mem_range.mp (pm.mem_iff.mp (by rw [e]; simp))
    have xl := v.nds_lt hx
    have mx : x ∈ p ++ i :: s := by rw [← e]; exact pm.mem_iff.mpr (List.mem_range.mpr xl)
    rcases List.mem_append.mp mx with z | z
    · exact z
    · exfalso
      have lt := ord_lt v hi hx
      rcases List.mem_cons.mp z with q | q
      · rw [q] at lt; exact Nat.lt_irrefl _ lt
      · have := (ix p i s e).2 x q
        have := hP i hi x hx
        simp [le] at *
        omega
  · have := (ix p i s e).1 x hx
    simp [le] at this
    omega
/-- for each plan that keeps the hands there is an order whose plan ends no later -/
theorem best (v : Ok st) {h : Nat} (h1 : 1 ≤ h) {P : Nat → Nat} {al : List Nat} (gP : Good st ts h al P) (ha : ∀ i, i < st.length → i ∈ al) : ∃ o, Topo st o ∧ ∀ i, i < st.length → planF st ts h o i ≤ P i := by
  obtain ⟨o, t, hl⟩ := along v (P := P) fun j hj x hx => by
    have := (gP.need j (ha j hj) x hx).2
    omega
  refine ⟨o, t, fun i hi => ?_⟩
  have := run_le (st := st) (ts := ts) h1 gP o [] (fun _ => 0) ⟨List.nodup_nil, (fun _ h => nomatch h), (fun _ h => nomatch h)⟩ (by rw [List.nil_append]; exact t.nd) (fun x hx => ha x (t.mem.mp (by simpa using hx))) (fun p i s e => ⟨t.need p i s (by simpa using e), hl p i s (by simpa using e)⟩) (fun _ h => nomatch h) i (by simpa using t.mem.mpr hi)
  exact this
theorem Good.more {h h' : Nat} (l : h ≤ h') {o : List Nat} {f : Nat → Nat} (g : Good st ts h o f) : Good st ts h' o f := ⟨g.nd, g.need, fun i hi => Nat.le_trans (g.few i hi) l⟩
/-- the earliest begins keep as many hands as there are stages -/
theorem early_good (v : Ok st) {h : Nat} (hh : st.length ≤ h) : Good st ts h (List.range st.length) fun i => e_ st ts i - at0 ts i := by
  refine ⟨List.nodup_range, fun i hi x hx => ?_, fun i hi => ?_⟩
  · have hi := List.mem_range.mp hi
    have xl := v.nds_lt hx
    refine ⟨List.mem_range.mpr xl, ?_⟩
    have e1 := e_eq v ts hi
    have e2 := e_eq v ts xl
    have := mx_le ((nds st i).map (e_ st ts)) 0 (e_ st ts x) (.inr (.inl (List.mem_map.mpr ⟨x, hx, rfl⟩)))
    omega
  · unfold cnt
    have := List.length_filter_le (works ts (fun i => e_ st ts i - at0 ts i) (e_ st ts i - at0 ts i)) (List.range st.length)
    simp at this
    omega
end
end Lw
end
section
set_option Elab.async false
set_option linter.all false
set_option maxRecDepth 100000
set_option maxHeartbeats 4000000
open PySem PySem.Spec PyProof.Rows L2 PD
namespace Lw
theorem ne_nD (m n : Nat) : neD (nD m) (nD n) = some (.bool (!decide (m = n))) := by
  rw [nD, nD, neD_int]
  by_cases h : m = n
  · rw [decide_eq_true h, decide_eq_true (by omega)]
  · rw [decide_eq_false h, decide_eq_false (by omega)]
theorem eq_nD (m n : Nat) : eqD (nD m) (nD n) = some (.bool (decide (m = n))) := by
  rw [nD, nD, eqD_int]
  by_cases h : m = n
  · rw [decide_eq_true h, decide_eq_true (by omega)]
  · rw [decide_eq_false h, decide_eq_false (by omega)]
theorem le_nDD (m n : Nat) : leD (nD m) (nD n) = some (.bool (decide (m ≤ n))) := by
  rw [nD, nD, leD_int]
  by_cases h : m ≤ n
  · rw [decide_eq_true h, decide_eq_true (by omega)]
  · rw [decide_eq_false h, decide_eq_false (by omega)]
theorem lt_nDD (m n : Nat) : ltD (nD m) (nD n) = some (.bool (decide (m < n))) := by
  rw [nD, nD, ltD_int]
  by_cases h : m < n
  · rw [decide_eq_true h, decide_eq_true (by omega)]
  · rw [decide_eq_false h, decide_eq_false (by omega)]
theorem gt_nDD (m n : Nat) : gtD (nD m) (nD n) = some (.bool (decide (n < m))) := by
  rw [nD, nD, gtD_int]
  by_cases h : n < m
  · rw [decide_eq_true h, decide_eq_true (by omega)]
  · rw [decide_eq_false h, decide_eq_false (by omega)]
theorem ge_nDD (m n : Nat) : geD (nD m) (nD n) = some (.bool (decide (n ≤ m))) := by
  rw [nD, nD, geD_int]
  by_cases h : n ≤ m
  · rw [decide_eq_true h, decide_eq_true (by omega)]
  · rw [decide_eq_false h, decide_eq_false (by omega)]
theorem app_nT {l m : List Nat} (h : l.length + m.length ≤ 1000) : addD (.tuple (l.map nD)) (.tuple (m.map nD)) = some (nT (l ++ m)) := by
  show (if _ then _ else _) = _
  rw [if_pos (by simp only [List.length_map, sizeLine]; omega), nT, List.map_append]
theorem app_list {l m : List PyData} (h : l.length + m.length ≤ 10000) : addD (.list l) (.list m) = some (.list (l ++ m)) := by
  show (if _ then _ else _) = _
  rw [if_pos (by simp only [sizeLine]; omega)]
def dicP (o : List Nat) (f : Nat → Nat) : PyData := dicD false (dN o fun i => nD (f i))
@[simp] theorem items_dicP (o : List Nat) (f : Nat → Nat) : itemsD (dicP o f) = some (o.map nD) := by
  show some ((o.map fun i => (nD i, nD (f i))).map (·.1)) = _
  rw [List.map_map]; rfl
theorem ix_dicP {o : List Nat} {f : Nat → Nat} {x : Nat} (h : x ∈ o) : ixD (dicP o f) (nD x) = some (nD (f x)) := ix_dN h
def S_worked_at : FSpec := fun avs hd Q E => ∃ ts o f m, avs = [.d (dicP o f), .d (nT ts), .d (nD m)] ∧ (∀ i ∈ o, i < ts.length) ∧ o.length ≤ 1000 ∧ Q (nD (cnt ts o f m)) hd
theorem rd_worked_at (avs hd Q E) (h : S_worked_at avs hd Q E) : t_worked_at (fnEnds false Q) ⟨initG ["plan", "times", "moment", "one"] avs, hd⟩ := by
  obtain ⟨ts, o, f, m, rfl, ho, hl, q⟩ := h
  simp only [t_worked_at]
  simp [nT]
  refine ⟨by simp [sizeLine]; omega, cRun_if _ (works ts f m) nD _ (fun x hx Y M y n => ?_) _ _ ?_⟩
  · have hx2 := ho x hx
    simp [ix_dicP hx, ix_nT (l := ts) (a := x) hx2, le_nDD, lt_nDD, add_nD]
    unfold works at y n
    by_cases c1 : f x ≤ m
    · by_cases c2 : m < f x + at0 ts x
      · simp [c1, c2] at y ⊢
        exact .inr (.inr y)
      · simp [c1, c2] at n ⊢
        exact .inr ⟨by omega, n⟩
    · simp [c1] at n ⊢
      exact ⟨by omega, n⟩
  · simp only [List.nil_append]
    simpa [cnt, nD] using q
def S_is_let : FSpec := fun avs hd Q E => ∃ ts o f h, avs = [.d (dicP o f), .d (nT ts), .d (nD h)] ∧ (∀ i ∈ o, i < ts.length) ∧ o.length ≤ 1000 ∧ Q (.bool (isLet ts h o f)) hd
theorem rd_is_let (avs hd Q E) (h : S_is_let avs hd Q E) : t_is_let S_worked_at (fnEnds false Q) ⟨initG ["plan", "times", "hands", "one"] avs, hd⟩ := by
  obtain ⟨ts, o, f, h, rfl, ho, hl, q⟩ := h
  simp only [t_is_let]
  simp
  refine ⟨by simp [sizeLine]; omega, cRun_of _ (fun i => .bool (decide (cnt ts o f (f i) ≤ h))) _ (fun x hx Y y => ?_) _ _ ?_⟩
  · simp [ix_dicP hx, S_worked_at, and_assoc]
    refine ⟨ts, o, f, rfl, rfl, f x, rfl, ho, hl, ?_⟩
    simp [le_nDD]
    exact y
  · simp only [List.nil_append, allD_map]
    exact ⟨_, rfl, q⟩
end Lw
end
section
set_option Elab.async false
set_option linter.all false
set_option maxRecDepth 100000
set_option maxHeartbeats 4000000
open PySem PySem.Spec PyProof.Rows L2 PD
namespace Lw
theorem sorted_srt (l : List Nat) : sortedD [.list (l.map nD)] = some ((srt l).map nD) := by
  have ok : okSort (l.map nD) = true := by
    have h3 : (l.map nD).all (fun a => (l.map nD).all fun b => PySem.W.alike a b) = true := List.all_eq_true.mpr fun a ha => List.all_eq_true.mpr fun b hb => by
      obtain ⟨m, _, rfl⟩ := List.mem_map.mp ha
      obtain ⟨n, _, rfl⟩ := List.mem_map.mp hb
      exact alike_nD m n
    have h4 : (l.map nD).all nonTup = true := List.all_eq_true.mpr fun a ha => by
      obtain ⟨m, _, rfl⟩ := List.mem_map.mp ha
      rfl
    have h5 : (l.map nD).all (fun d => decide (d.depth ≤ 60)) = true := List.all_eq_true.mpr fun a ha => by
      obtain ⟨m, _, rfl⟩ := List.mem_map.mp ha
      simp
    unfold okSort
    rw [h3, h4, h5, plainAll_nD]
    simp
  have e : sortD (l.map nD) = (srt l).map nD := (List.map_mergeSort fun a _ b _ => (le_nD a b).symm).symm
  simp only [sortedD, ok, if_true, e]
theorem pairs_dN (g : Nat → PyData) : ∀ o : List Nat, pairsD (o.map fun i => .tuple [nD i, g i]) = some (dN o g)
  | [] => rfl
  | i :: o => by
    rw [List.map_cons]
    unfold pairsD
    rw [if_pos (fits_nD i), pairs_dN g o]
    rfl
theorem merge_dN (g : Nat → PyData) : ∀ (o p : List Nat), (p ++ o).Nodup → mergeD (dN p g) (dN o g) = dN (p ++ o) g
  | [], p, _ => by rw [List.append_nil]; rfl
  | i :: o, p, nd => by
    have hi : i ∉ p := fun z => (List.nodup_append.mp nd).2.2 i z i List.mem_cons_self rfl
    show mergeD (insD (nD i) (g i) (dN p g)) (dN o g) = _
    rw [ins_dN hi]
    have e : dN p g ++ [(nD i, g i)] = dN (p ++ [i]) g := by unfold dN; rw [List.map_append]; rfl
    rw [e, merge_dN g o (p ++ [i]) (by simpa using nd)]
    simp
theorem told_dic {o : List Nat} {f : Nat → Nat} {i m : Nat} (nd : o.Nodup) (hi : i ∉ o) : ∃ ps, dictD [.list ((o.map fun i => .tuple [nD i, nD (f i)]) ++ [.tuple [nD i, nD m]])] = some ps ∧ dicD false (mergeD [] ps) = dicP (o ++ [i]) (upf f i m) := by
  have e : (o.map fun i => PyData.tuple [nD i, nD (f i)]) ++ [.tuple [nD i, nD m]] = (o ++ [i]).map fun j => .tuple [nD j, nD (upf f i m j)] := by
    rw [List.map_append]
    congr 1
    · refine List.map_congr_left fun x hx => ?_
      unfold upf
      rw [if_neg fun z => hi (by rw [← z]; exact hx)]
    · show _ = [PyData.tuple [nD i, nD (upf f i m i)]]
      unfold upf
      rw [if_pos rfl]
  refine ⟨dN (o ++ [i]) fun j => nD (upf f i m j), ?_, ?_⟩
  · rw [e]; exact pairs_dN (fun j => nD (upf f i m j)) _
  · have := merge_dN (fun j => nD (upf f i m j)) (o ++ [i]) [] (by rw [List.nil_append]; exact List.nodup_append.mpr ⟨nd, by simp, fun a ha b hb z => hi (by rw [List.mem_singleton.mp hb] at z; rw [← z]; exact ha)⟩)
    have e2 : (dN [] fun j => nD (upf f i m j)) = [] := rfl
    rw [e2, List.nil_append] at this
    rw [this]; rfl
theorem items_dic (o : List Nat) (f : Nat → Nat) : itemsOfD (dicP o f) = some (o.map fun i => .tuple [nD i, nD (f i)]) := by
  show some ((o.map fun i => (nD i, nD (f i))).map fun q => PyData.tuple [q.1, q.2]) = _
  rw [List.map_map]; rfl
theorem cands_eq (st : List (List Nat)) (ts o : List Nat) (f : Nat → Nat) (i : Nat) : cands st ts o f i = beg st ts f i :: (o.filter fun j => decide (beg st ts f i < f j + at0 ts j)).map fun j => f j + at0 ts j := by
  unfold cands
  rw [List.filter_map]
  rfl
def S_raw_in_turn : FSpec := fun avs hd Q E => ∃ st ts o h, avs = [.d (stD st), .d (nT ts), .d (nD h), .d (nT o)] ∧ Ok st ∧ ts.length = st.length ∧ Topo st o ∧ 1 ≤ h ∧ Q (nT (planL st ts h o)) hd
theorem rd_raw_in_turn (avs hd Q E) (h : S_raw_in_turn avs hd Q E) : t_raw_in_turn S_is_let (fnEnds false Q) ⟨initG ["stages", "times", "hands", "order", "plan", "number", "begin", "need", "moments", "one", "moment", "told"] avs, hd⟩ := by
  obtain ⟨st, ts, o, h, rfl, v, ht, t, h1, q⟩ := h
  have h2 := v.n2
  have ol : o.length = st.length := by rw [t.perm.length_eq]; simp
  simp only [t_raw_in_turn]
  simp [stD, nT]
  refine fRun_inv (fun k s => ∃ f S5 S6 S8 S10 S11, s = ⟨[.v (.tuple (st.map nT)), .v (.tuple (ts.map nD)), .v (nD h), .v (.tuple (o.map nD)), .v (dicP (o.take k) f), S5, S6, .no, S8, .no, S10, S11], hd⟩ ∧ Good st ts h (o.take k) f ∧ run st ts h (o.drop k) (o.take k) f = planF st ts h o) ?_ ?_ ⟨fun _ => 0, .no, .no, .no, .no, .no, rfl, ⟨List.nodup_nil, (fun _ h => nomatch h), (fun _ h => nomatch h)⟩, rfl⟩
  · rintro k d s N hd' ⟨f, S5, S6, S8, S10, S11, rfl, g, er⟩ hN
    have hk : k < o.length := by simpa using (List.getElem?_eq_some_iff.mp hd').1
    have ed : d = nD o[k] := by
      rw [List.getElem?_map, List.getElem?_eq_getElem hk] at hd'
      exact (Option.some.inj hd').symm
    subst ed
    have tk := List.take_succ_eq_append_getElem hk
    have dk := List.drop_eq_getElem_cons hk
    have dec : o = o.take k ++ o[k] :: o.drop (k + 1) := by rw [← dk, List.take_append_drop]
    have hn := t.need _ _ _ dec
    have il : o[k] < st.length := t.mem.mp (List.getElem_mem hk)
    have hi : o[k] ∉ o.take k := fun z => by
      have := t.nd
      rw [dec] at this
      exact (List.nodup_append.mp this).2.2 _ z _ List.mem_cons_self rfl
    rw [tk] at hN
    rw [dk] at er
    have sub : ∀ x ∈ o.take k, x < ts.length := fun x hx => by rw [ht]; exact t.mem.mp (List.mem_of_mem_take hx)
    have pl : (o.take k).length ≤ 10 := by simp; omega
    generalize o[k] = i at hn il hi hN er ⊢
    generalize o.drop (k + 1) = rest at er hN ⊢
    generalize o.take k = p at hn hi hN er g sub pl ⊢
    clear tk dk dec hd' hk
    obtain ⟨p1, p2, p3⟩ := pick_ok (st := st) g.few h1 hi
    have g2 := g.snoc hi hn (cand_ge p2) p3
    have nl := v.nds_len i
    simp [ix_st il, nT]
    refine ⟨by simp [sizeLine], by simp [sizeLine]; omega, cRun_of _ (fun x => nD (f x + at0 ts x)) _ (fun x hx Y y => ?_) _ _ ?_⟩
    · have hx2 := hn x hx
      simp [ix_dicP hx2, ix_nT (l := ts) (a := x) (sub x hx2), add_nD]
      exact y
    · have m1 : (nds st i).map (fun x => nD (f x + at0 ts x)) = ((nds st i).map fun x => f x + at0 ts x).map nD := by rw [List.map_map]; rfl
      have m2 : addD (.list [.int 0]) (.list (((nds st i).map fun x => f x + at0 ts x).map nD)) = some (.list (nD 0 :: ((nds st i).map fun x => f x + at0 ts x).map nD)) := by
        rw [show (PyData.list [PyData.int 0]) = .list [nD 0] from rfl, app_list (by simp; omega)]; rfl
      rw [List.nil_append, m1]
      refine ⟨_, m2, _, maxOf_nD _ _, ?_⟩
      have eb : mx 0 ((nds st i).map fun x => f x + at0 ts x) = beg st ts f i := rfl
      rw [eb]
      generalize hb : beg st ts f i = b
      refine ⟨by simp [sizeLine], by simp only [sizeLine]; omega, cRun_if _ (fun x => decide (b < f x + at0 ts x)) (fun x => nD (f x + at0 ts x)) _ (fun x hx Y M y n => ?_) _ _ ?_⟩
      · simp [ix_dicP hx, ix_nT (l := ts) (a := x) (sub x hx), add_nD, gt_nDD]
        by_cases c : b < f x + at0 ts x
        · simp [c] at y ⊢
          exact .inr y
        · simp [c] at n ⊢
          exact ⟨by omega, n⟩
      · have m3 : (p.filter fun x => decide (b < f x + at0 ts x)).map (fun x => nD (f x + at0 ts x)) = ((p.filter fun x => decide (b < f x + at0 ts x)).map fun x => f x + at0 ts x).map nD := by rw [List.map_map]; rfl
        have fl := List.length_filter_le (fun x => decide (b < f x + at0 ts x)) p
        have m4 : addD (.list [nD b]) (.list (((p.filter fun x => decide (b < f x + at0 ts x)).map fun x => f x + at0 ts x).map nD)) = some (.list ((cands st ts p f i).map nD)) := by
          rw [app_list (by simp; omega), cands_eq, hb]; rfl
        rw [List.nil_append, m3]
        refine ⟨_, m4, _, sorted_srt _, ?_⟩
        have em : srt (cands st ts p f i) = moms st ts p f i := rfl
        rw [em]
        refine fRun_inv (fun j s => ∃ S10 S11, s = ⟨[.v (.tuple (st.map nT)), .v (.tuple (ts.map nD)), .v (nD h), .v (.tuple (o.map nD)), .v (dicP p f), .v (nD i), .v (nD b), .no, .v (.list ((moms st ts p f i).map nD)), .no, S10, S11], hd⟩ ∧ ((moms st ts p f i).drop j).find? (letm ts h p f i) = some (pick st ts h p f i)) ?_ ?_ ⟨S10, S11, rfl, p1⟩
        · rintro j d s N2 hd2 ⟨S10, S11, rfl, ep⟩ hN2
          have hj : j < (moms st ts p f i).length := by simpa using (List.getElem?_eq_some_iff.mp hd2).1
          have ed : d = nD (moms st ts p f i)[j] := by
            rw [List.getElem?_map, List.getElem?_eq_getElem hj] at hd2
            exact (Option.some.inj hd2).symm
          subst ed
          rw [List.drop_eq_getElem_cons hj, List.find?_cons] at ep
          generalize (moms st ts p f i)[j] = m at ep ⊢
          obtain ⟨ps, f1, f2⟩ := told_dic (f := f) (m := m) g.nd hi
          have a1 : addD (.list (p.map fun i => .tuple [nD i, nD (f i)])) (.list [.tuple [nD i, nD m]]) = some (.list ((p.map fun i => .tuple [nD i, nD (f i)]) ++ [.tuple [nD i, nD m]])) := app_list (by simp; omega)
          simp [items_dic, a1, f1, f2, S_is_let, and_assoc, sizeLine]
          refine ⟨ts, p ++ [i], upf f i m, rfl, rfl, h, rfl, fun x hx => ?_, by simp; omega, ?_⟩
          · rcases List.mem_append.mp hx with z | z
            · exact sub x z
            · rw [List.mem_singleton.mp z, ht]; exact il
          · have el : isLet ts h (p ++ [i]) (upf f i m) = letm ts h p f i m := rfl
            rw [el]
            cases c : letm ts h p f i m with
            | true =>
              rw [c] at ep
              have ep : m = pick st ts h p f i := Option.some.inj ep
              subst ep
              simp
              refine hN _ ⟨_, _, _, _, _, _, rfl, g2, er⟩
            | false =>
              rw [c] at ep
              simp
              exact hN2 _ ⟨_, _, rfl, ep⟩
        · rintro s ⟨S10, S11, rfl, ep⟩
          rw [List.length_map, List.drop_length] at ep
          cases ep
  · rintro s ⟨f, S5, S6, S8, S10, S11, rfl, g, er⟩
    rw [List.length_map, List.take_length, List.drop_length] at *
    have er : f = planF st ts h o := er
    subst er
    simp
    refine ⟨by omega, ?_⟩
    rw [rng_nat]
    refine ⟨by simp [sizeLine]; omega, cRun_of _ (fun x => nD (planF st ts h o x)) _ (fun x hx Y y => ?_) _ _ ?_⟩
    · simp [ix_dicP (t.mem.mpr (List.mem_range.mp hx))]
      exact y
    · have m1 : (List.range st.length).map (fun x => nD (planF st ts h o x)) = (planL st ts h o).map nD := by unfold planL; rw [List.map_map]; rfl
      rw [List.nil_append, m1]
      exact q
end Lw
end
section
set_option Elab.async false
set_option linter.all false
set_option maxRecDepth 100000
set_option maxHeartbeats 4000000
open PySem PySem.Spec PyProof.Rows L2 PD
namespace Lw
def fitL (ts o : List Nat) (f : Nat → Nat) (b e : Nat) : List Nat := b :: (o.map f).filter fun m => decide (b < m ∧ m < e)
def fitOk (ts : List Nat) (h : Nat) (o : List Nat) (f : Nat → Nat) (b e m : Nat) : Bool := !(decide (b < e) && decide (h ≤ cnt ts o f m))
def fits (ts : List Nat) (h : Nat) (o : List Nat) (f : Nat → Nat) (b e : Nat) : Bool := (fitL ts o f b e).all (fitOk ts h o f b e)
theorem fits_iff {ts o : List Nat} {f : Nat → Nat} {h : Nat} (few : ∀ i ∈ o, cnt ts o f (f i) ≤ h) {i m : Nat} (hi : i ∉ o) : fits ts h o f m (m + at0 ts i) = letm ts h o f i m := by
  have key : fits ts h o f m (m + at0 ts i) = true ↔ letm ts h o f i m = true := by
    rw [letm_iff few hi]
    unfold fits
    rw [List.all_eq_true]
    constructor
    · intro ha m' q1 q2
      have ok : ∀ x ∈ fitL ts o f m (m + at0 ts i), cnt ts o f x + 1 ≤ h := fun x hx => by
        have := ha x hx
        unfold fitOk at this
        simp at this
        rcases this with z | z <;> omega
      by_cases e : (o.filter fun j => works ts f m' j && decide (m < f j)) = []
      · have z := ok m List.mem_cons_self
        have := cnt_mono (ts := ts) (o := o) (f := f) (m := m') (m' := m) fun x hx hw => by
          have : ¬ m < f x := fun q => by
            have : x ∈ o.filter fun j => works ts f m' j && decide (m < f j) := List.mem_filter.mpr ⟨hx, by rw [hw]; simpa using q⟩
            rw [e] at this; cases this
          unfold works at *
          simp at *
          omega
        omega
      · obtain ⟨x, h1, h2⟩ := latest f _ e
        obtain ⟨h3, h4⟩ := List.mem_filter.mp h1
        have h4 : works ts f m' x = true ∧ m < f x := by simpa using h4
        have wx : f x ≤ m' := by have := h4.1; unfold works at this; simp at this; omega
        have z := ok (f x) (List.mem_cons_of_mem _ (List.mem_filter.mpr ⟨List.mem_map.mpr ⟨x, h3, rfl⟩, by simp; omega⟩))
        have := cnt_mono (ts := ts) (o := o) (f := f) (m := m') (m' := f x) fun y hy hw => by
          by_cases q : m < f y
          · have := h2 y (List.mem_filter.mpr ⟨hy, by rw [hw]; simpa using q⟩)
            unfold works at *
            simp at *
            omega
          · unfold works at *
            simp at *
            omega
        omega
    · intro hm x hx
      unfold fitOk
      by_cases q : m < m + at0 ts i
      · have : m ≤ x ∧ x < m + at0 ts i := by
          rcases List.mem_cons.mp hx with z | z
          · omega
          · have := (List.mem_filter.mp z).2
            simp at this; omega
        have := hm x this.1 this.2
        simp; omega
      · have : decide (m < m + at0 ts i) = false := decide_eq_false q
        rw [this]; rfl
  cases a : fits ts h o f m (m + at0 ts i) <;> cases b : letm ts h o f i m <;> first | rfl | (rw [a, b] at key; simp at key)
def S__law_fits : FSpec := fun avs hd Q E => ∃ ts h o f b e, avs = [.d (nT ts), .d (nD h), .d (dicP o f), .d (nD b), .d (nD e)] ∧ (∀ i ∈ o, i < ts.length) ∧ o.length ≤ 1000 ∧ Q (.bool (fits ts h o f b e)) hd
theorem rd__law_fits (avs hd Q E) (h : S__law_fits avs hd Q E) : t__law_fits (fnEnds false Q) ⟨initG ["times", "hands", "begins", "begin", "end", "moment", "other", "at_work"] avs, hd⟩ := by
  obtain ⟨ts, h, o, f, b, e, rfl, ho, hl, q⟩ := h
  simp only [t__law_fits]
  simp
  refine ⟨by simp [sizeLine], by simp only [sizeLine]; omega, cRun_if _ (fun x => decide (b < f x ∧ f x < e)) (fun x => nD (f x)) _ (fun x hx Y M y n => ?_) _ _ ?_⟩
  · simp [ix_dicP hx, lt_nDD]
    by_cases c1 : b < f x
    · by_cases c2 : f x < e
      · simp [c1, c2] at y ⊢
        exact .inr (.inr y)
      · simp [c1, c2] at n ⊢
        exact .inr ⟨by omega, n⟩
    · simp [c1] at n ⊢
      exact ⟨by omega, n⟩
  · have m1 : (o.filter fun x => decide (b < f x ∧ f x < e)).map (fun x => nD (f x)) = ((o.map f).filter fun m => decide (b < m ∧ m < e)).map nD := by
      rw [List.filter_map, List.map_map]; rfl
    have l1 : ((o.map f).filter fun m => decide (b < m ∧ m < e)).length ≤ 1000 := Nat.le_trans (List.length_filter_le _ _) (by simp; omega)
    have m2 : addD (.list [nD b]) (.list (((o.map f).filter fun m => decide (b < m ∧ m < e)).map nD)) = some (.list ((fitL ts o f b e).map nD)) := by
      rw [app_list (by simp only [List.length_map, List.length_singleton]; omega)]; rfl
    rw [List.nil_append, m1]
    refine ⟨_, m2, _, .inl rfl, ?_⟩
    refine fRun_inv (fun j s => ∃ S5 S7, s = ⟨[.v (nT ts), .v (nD h), .v (dicP o f), .v (nD b), .v (nD e), S5, .no, S7], hd⟩ ∧ ((fitL ts o f b e).drop j).all (fitOk ts h o f b e) = fits ts h o f b e) ?_ ?_ ⟨.no, .no, rfl, rfl⟩
    · rintro j d s N hd' ⟨S5, S7, rfl, er⟩ hN
      have hj : j < (fitL ts o f b e).length := by simpa using (List.getElem?_eq_some_iff.mp hd').1
      have ed : d = nD (fitL ts o f b e)[j] := by
        rw [List.getElem?_map, List.getElem?_eq_getElem hj] at hd'
        exact (Option.some.inj hd').symm
      subst ed
      rw [List.drop_eq_getElem_cons hj, List.all_cons] at er
      generalize (fitL ts o f b e)[j] = m at er ⊢
      simp [nT]
      refine ⟨by simp only [sizeLine]; omega, cRun_if _ (works ts f m) nD _ (fun x hx Y M y n => ?_) _ _ ?_⟩
      · have hx2 := ho x hx
        simp [ix_dicP hx, ix_nT (l := ts) (a := x) hx2, le_nDD, lt_nDD, add_nD]
        unfold works at y n
        by_cases c1 : f x ≤ m
        · by_cases c2 : m < f x + at0 ts x
          · simp [c1, c2] at y ⊢
            exact .inr (.inr y)
          · simp [c1, c2] at n ⊢
            exact .inr ⟨by omega, n⟩
        · simp [c1] at n ⊢
          exact ⟨by omega, n⟩
      · simp only [List.nil_append]
        have gw : geD (.int ((o.filter (works ts f m)).length : Int)) (nD h) = some (.bool (decide (h ≤ cnt ts o f m))) := ge_nDD _ _
        simp [lt_nDD]
        have eo : fitOk ts h o f b e m = !(decide (b < e) && decide (h ≤ cnt ts o f m)) := rfl
        rw [eo] at er
        by_cases c1 : b < e
        · by_cases c2 : h ≤ cnt ts o f m
          · rw [decide_eq_true c1, decide_eq_true c2] at er
            have er : false = fits ts h o f b e := er
            rw [← er] at q
            exact .inr ⟨c1, _, gw, .inr ⟨by rw [decide_eq_true c2], q⟩⟩
          · rw [decide_eq_true c1, decide_eq_false c2] at er
            exact .inr ⟨c1, _, gw, .inl ⟨by rw [decide_eq_false c2], hN _ ⟨_, _, rfl, er⟩⟩⟩
        · rw [decide_eq_false c1] at er
          exact .inl ⟨by omega, hN _ ⟨_, _, rfl, er⟩⟩
    · rintro s ⟨S5, S7, rfl, er⟩
      rw [List.length_map, List.drop_length] at er
      have er : true = fits ts h o f b e := er
      rw [← er] at q
      simpa using q
end Lw
end
section
set_option Elab.async false
set_option linter.all false
set_option maxRecDepth 100000
set_option maxHeartbeats 4000000
open PySem PySem.Spec PyProof.Rows L2 PD
namespace Lw
@[simp] theorem notIn_dicP (o : List Nat) (f : Nat → Nat) (i : Nat) : notInD (nD i) (dicP o f) = some (.bool (!decide (i ∈ o))) := by
  have : isIn (nD i) (dicP o f) = some (decide (i ∈ o)) := by
    show (if keyFits false (nD i) = true then some (lookD (nD i) (dN o fun i => nD (f i))).isSome else none) = _
    rw [if_pos (fits_nD i), look_dN]
    by_cases h : i ∈ o
    · rw [if_pos h, decide_eq_true h]; rfl
    · rw [if_neg h, decide_eq_false h]; rfl
  unfold notInD
  rw [this]; rfl
theorem ins_dicP {o : List Nat} {f : Nat → Nat} {i m : Nat} (hi : i ∉ o) : dicD false (insD (nD i) (nD m) (dN o fun i => nD (f i))) = dicP (o ++ [i]) (upf f i m) := by
  rw [ins_dN hi]
  unfold dicP
  congr 1
  unfold dN
  rw [List.map_append]
  congr 1
  · refine List.map_congr_left fun x hx => ?_
    have : upf f i m x = f x := by unfold upf; rw [if_neg fun z => hi (by rw [← z]; exact hx)]
    show (nD x, nD (f x)) = (nD x, nD (upf f i m x))
    rw [this]
  · show _ = [(nD i, nD (upf f i m i))]
    unfold upf
    rw [if_pos rfl]
def S__law_in_turn : FSpec := fun avs hd Q E => ∃ st ts o h, avs = [.d (stD st), .d (nT ts), .d (nD h), .d (nT o)] ∧ Ok st ∧ ts.length = st.length ∧ Topo st o ∧ 1 ≤ h ∧ Q (nT (planL st ts h o)) hd
theorem rd__law_in_turn (avs hd Q E) (h : S__law_in_turn avs hd Q E) : t__law_in_turn S__law_fits (fnEnds false Q) ⟨initG ["some", "times", "hands", "order", "begins", "one", "least", "other", "ends", "moments", "end", "moment"] avs, hd⟩ := by
  obtain ⟨st, ts, o, h, rfl, v, ht, t, h1, q⟩ := h
  have h2 := v.n2
  have ol : o.length = st.length := by rw [t.perm.length_eq]; simp
  simp only [t__law_in_turn]
  simp [stD, nT]
  refine fRun_inv (fun k s => ∃ f S5 S6 S8 S9 S11, s = ⟨[.v (.tuple (st.map nT)), .v (.tuple (ts.map nD)), .v (nD h), .v (.tuple (o.map nD)), .m (dicP (o.take k) f), S5, S6, .no, S8, S9, .no, S11], hd⟩ ∧ Good st ts h (o.take k) f ∧ run st ts h (o.drop k) (o.take k) f = planF st ts h o) ?_ ?_ ⟨fun _ => 0, .no, .no, .no, .no, .no, rfl, ⟨List.nodup_nil, (fun _ h => nomatch h), (fun _ h => nomatch h)⟩, rfl⟩
  · rintro k d s N hd' ⟨f, S5, S6, S8, S9, S11, rfl, g, er⟩ hN
    have hk : k < o.length := by simpa using (List.getElem?_eq_some_iff.mp hd').1
    have ed : d = nD o[k] := by
      rw [List.getElem?_map, List.getElem?_eq_getElem hk] at hd'
      exact (Option.some.inj hd').symm
    subst ed
    have tk := List.take_succ_eq_append_getElem hk
    have dk := List.drop_eq_getElem_cons hk
    have dec : o = o.take k ++ o[k] :: o.drop (k + 1) := by rw [← dk, List.take_append_drop]
    have hn := t.need _ _ _ dec
    have il : o[k] < st.length := t.mem.mp (List.getElem_mem hk)
    have hi : o[k] ∉ o.take k := fun z => by
      have := t.nd
      rw [dec] at this
      exact (List.nodup_append.mp this).2.2 _ z _ List.mem_cons_self rfl
    rw [tk] at hN
    rw [dk] at er
    have sub : ∀ x ∈ o.take k, x < ts.length := fun x hx => by rw [ht]; exact t.mem.mp (List.mem_of_mem_take hx)
    have pl : (o.take k).length ≤ 10 := by simp; omega
    generalize o[k] = i at hn il hi hN er ⊢
    generalize o.drop (k + 1) = rest at er hN ⊢
    generalize o.take k = p at hn hi hN er g sub pl ⊢
    clear tk dk dec hd' hk
    obtain ⟨p1, p2, p3⟩ := pick_ok (st := st) g.few h1 hi
    have g2 := g.snoc hi hn (cand_ge p2) p3
    have nl := v.nds_len i
    simp [ix_st il, nT]
    refine ⟨by simp [sizeLine], by simp [sizeLine]; omega, cRun_of _ (fun x => nD (f x + at0 ts x)) _ (fun x hx Y y => ?_) _ _ ?_⟩
    · have hx2 := hn x hx
      simp [ix_dicP hx2, ix_nT (l := ts) (a := x) (sub x hx2), add_nD]
      exact y
    · have m1 : (nds st i).map (fun x => nD (f x + at0 ts x)) = ((nds st i).map fun x => f x + at0 ts x).map nD := by rw [List.map_map]; rfl
      have m2 : addD (.list [.int 0]) (.list (((nds st i).map fun x => f x + at0 ts x).map nD)) = some (.list (nD 0 :: ((nds st i).map fun x => f x + at0 ts x).map nD)) := by
        rw [show (PyData.list [PyData.int 0]) = .list [nD 0] from rfl, app_list (by simp; omega)]; rfl
      rw [List.nil_append, m1]
      refine ⟨_, m2, _, maxOf_nD _ _, ?_⟩
      have eb : mx 0 ((nds st i).map fun x => f x + at0 ts x) = beg st ts f i := rfl
      rw [eb]
      generalize hb : beg st ts f i = b
      refine ⟨by simp only [sizeLine]; omega, cRun_of _ (fun x => nD (f x + at0 ts x)) _ (fun x hx Y y => ?_) _ _ ?_⟩
      · simp [ix_dicP hx, ix_nT (l := ts) (a := x) (sub x hx), add_nD]
        exact y
      · have m3 : p.map (fun x => nD (f x + at0 ts x)) = (p.map fun x => f x + at0 ts x).map nD := by rw [List.map_map]; rfl
        rw [List.nil_append, m3]
        refine ⟨by simp [sizeLine], by simp only [sizeLine, List.length_map]; omega, cRun_if _ (fun x => decide (b < x)) nD _ (fun x hx Y M y n => ?_) _ _ ?_⟩
        · simp [gt_nDD]
          by_cases c : b < x
          · simp [c] at y ⊢
            exact .inr y
          · simp [c] at n ⊢
            exact ⟨by omega, n⟩
        · have fl := List.length_filter_le (fun x => decide (b < x)) (p.map fun x => f x + at0 ts x)
          have fl : ((p.map fun x => f x + at0 ts x).filter fun x => decide (b < x)).length ≤ p.length := by simpa using fl
          have m4 : addD (.list [nD b]) (.list (((p.map fun x => f x + at0 ts x).filter fun x => decide (b < x)).map nD)) = some (.list ((cands st ts p f i).map nD)) := by
            rw [app_list (by simp only [List.length_map, List.length_singleton]; omega)]
            unfold cands
            rw [hb]; rfl
          rw [List.nil_append]
          refine ⟨_, m4, _, sorted_srt _, ?_⟩
          have em : srt (cands st ts p f i) = moms st ts p f i := rfl
          rw [em]
          generalize S8d : (PyData.list ((p.map fun x => f x + at0 ts x).map nD)) = e8
          refine fRun_inv (fun j s => ∃ S11 p' f', s = ⟨[.v (.tuple (st.map nT)), .v (.tuple (ts.map nD)), .v (nD h), .v (.tuple (o.map nD)), .m (dicP p' f'), .v (nD i), .v (nD b), .no, .m e8, .v (.list ((moms st ts p f i).map nD)), .no, S11], hd⟩ ∧ ((p' = p ∧ f' = f ∧ ((moms st ts p f i).drop j).find? (letm ts h p f i) = some (pick st ts h p f i)) ∨ (p' = p ++ [i] ∧ f' = upf f i (pick st ts h p f i)))) ?_ ?_ ⟨S11, _, _, rfl, .inl ⟨rfl, rfl, p1⟩⟩
          · rintro j d s N2 hd2 ⟨S11, p', f', rfl, ep⟩ hN2
            have hj : j < (moms st ts p f i).length := by simpa using (List.getElem?_eq_some_iff.mp hd2).1
            have ed : d = nD (moms st ts p f i)[j] := by
              rw [List.getElem?_map, List.getElem?_eq_getElem hj] at hd2
              exact (Option.some.inj hd2).symm
            subst ed
            rcases ep with ⟨rfl, rfl, ep⟩ | ⟨rfl, rfl⟩
            · rw [List.drop_eq_getElem_cons hj, List.find?_cons] at ep
              generalize (moms st ts p' f' i)[j] = m at ep ⊢
              simp [hi, ix_nT (l := ts) (a := i) (by omega), add_nD, S__law_fits, and_assoc]
              refine ⟨ts, rfl, h, rfl, p', f', rfl, m, rfl, _, rfl, sub, by omega, ?_⟩
              rw [fits_iff g.few hi]
              cases c : letm ts h p' f' i m with
              | true =>
                rw [c] at ep
                have ep : m = pick st ts h p' f' i := Option.some.inj ep
                subst ep
                simp
                refine ⟨fits_nD i, ?_, ?_⟩
                · unfold dN
                  rw [List.length_map]
                  simp only [sizeLine]; omega
                · rw [ins_dicP hi]
                  exact hN2 _ ⟨_, _, _, rfl, .inr ⟨rfl, rfl⟩⟩
              | false =>
                rw [c] at ep
                simp
                exact hN2 _ ⟨_, _, _, rfl, .inl ⟨rfl, rfl, ep⟩⟩
            · simp
              exact hN2 _ ⟨_, _, _, rfl, .inr ⟨rfl, rfl⟩⟩
          · rintro s ⟨S11, p', f', rfl, ep⟩
            rw [List.length_map, List.drop_length] at ep
            rcases ep with ⟨_, _, ep⟩ | ⟨rfl, rfl⟩
            · cases ep
            · exact hN _ ⟨_, _, _, _, _, _, rfl, g2, er⟩
  · rintro s ⟨f, S5, S6, S8, S9, S11, rfl, g, er⟩
    rw [List.length_map, List.take_length, List.drop_length] at *
    have er : f = planF st ts h o := er
    subst er
    simp
    refine ⟨by omega, ?_⟩
    rw [rng_nat]
    refine ⟨by simp [sizeLine]; omega, cRun_of _ (fun x => nD (planF st ts h o x)) _ (fun x hx Y y => ?_) _ _ ?_⟩
    · simp [ix_dicP (t.mem.mpr (List.mem_range.mp hx))]
      exact y
    · have m1 : (List.range st.length).map (fun x => nD (planF st ts h o x)) = (planL st ts h o).map nD := by unfold planL; rw [List.map_map]; rfl
      rw [List.nil_append, m1]
      exact q
end Lw
end
section
set_option Elab.async false
set_option linter.all false
set_option maxRecDepth 100000
set_option maxHeartbeats 4000000
open PySem PySem.Spec PyProof.Rows L2 PD
namespace Lw
/-! ### is_order -/
theorem srt_perm {o : List Nat} {n : Nat} (p : o.Perm (List.range n)) : srt o = List.range n :=
  List.Perm.eq_of_pairwise (le := (· ≤ ·)) (fun a b _ _ => Nat.le_antisymm) (srt_le o) List.pairwise_le_range ((List.mergeSort_perm o _).trans p)
theorem sorted_srtT (l : List Nat) : sortedD [.tuple (l.map nD)] = some ((srt l).map nD) := sorted_srt l
theorem eq_nL (l : List Nat) : eqD (.list (l.map nD)) (.list (l.map nD)) = some (.bool true) := by
  have e : PyData.eqv (.list (l.map nD)) (.list (l.map nD)) = true := by
    rw [PyData.eqv]; exact PySem.W.eqvAll_refl_alike _ (alikeAll_nD l l)
  have h : okEq (.list (l.map nD)) (.list (l.map nD)) = true := by
    unfold okEq
    simp [PyData.plain, plainAll_nD]
  unfold eqD
  rw [if_pos h, e]
def S_is_order : FSpec := fun avs hd Q E => ∃ (o : List Nat) (n : Nat), avs = [.d (nT o), .d (.int (n : Int))] ∧ o.Perm (List.range n) ∧ n ≤ 1000 ∧ Q (.bool true) hd
theorem rd_is_order (avs hd Q E) (h : S_is_order avs hd Q E) : t_is_order S_is_integer S_is_sized (fnEnds false Q) ⟨initG ["thing", "many", "one"] avs, hd⟩ := by
  obtain ⟨o, n, rfl, p, hn, q⟩ := h
  have ol : o.length = n := by rw [p.length_eq]; simp
  simp only [t_is_order]
  simp [S_is_sized, nT, ol, and_assoc]
  refine ⟨by simp only [sizeLine]; omega, cRun_of _ (fun x => .bool true) _ (fun x hx Y y => ?_) _ _ ?_⟩
  · simp [S_is_integer]
    exact y
  · refine ⟨_, (allD_map (fun _ => true) o), ?_⟩
    simp [sorted_srtT, srt_perm p]
    rw [rng_nat]
    exact ⟨by omega, _, eq_nL _, q⟩
/-! ### all orders -/
def permsOn (n : Nat) : Nat → List (List Nat)
  | 0 => [[]]
  | k + 1 => (permsOn n k).flatMap fun r => ((List.range n).filter fun i => !decide (i ∈ r)).map fun i => r ++ [i]
theorem flat_len {α β : Type} {f : α → List β} {b : Nat} : ∀ l : List α, (∀ x ∈ l, (f x).length ≤ b) → (l.flatMap f).length ≤ l.length * b
  | [], _ => by simp
  | x :: l, h => by
    rw [List.flatMap_cons, List.length_append, List.length_cons, Nat.succ_mul]
    have := flat_len l fun y hy => h y (List.mem_cons_of_mem _ hy)
    have := h x List.mem_cons_self
    omega
theorem perms_step_len (n : Nat) (r : List Nat) : (((List.range n).filter fun i => !decide (i ∈ r)).map fun i => r ++ [i]).length ≤ n := by
  rw [List.length_map]
  exact Nat.le_trans (List.length_filter_le _ _) (by simp)
theorem perms_len {n : Nat} (h : n ≤ 6) : ∀ k, k ≤ 6 → (permsOn n k).length ≤ 6 ^ k
  | 0, _ => Nat.le_refl _
  | k + 1, hk => by
    have ih := perms_len h k (by omega)
    have := flat_len (f := fun r => ((List.range n).filter fun i => !decide (i ∈ r)).map fun i => r ++ [i]) (b := n) (permsOn n k) fun r _ => perms_step_len n r
    have : (permsOn n (k + 1)).length ≤ (permsOn n k).length * n := this
    rw [Nat.pow_succ]
    exact Nat.le_trans this (Nat.mul_le_mul ih h)
theorem perms_mem {n : Nat} : ∀ k r, r ∈ permsOn n k ↔ r.length = k ∧ r.Nodup ∧ ∀ i ∈ r, i < n
  | 0, r => by
    constructor
    · intro h
      have : r = [] := by simpa [permsOn] using h
      subst this
      exact ⟨rfl, List.nodup_nil, fun _ h => nomatch h⟩
    · rintro ⟨h, _, _⟩
      rw [List.length_eq_zero_iff] at h
      subst h
      exact List.mem_singleton.mpr rfl
  | k + 1, r => by
    constructor
    · intro h
      obtain ⟨s, h1, h2⟩ := List.mem_flatMap.mp h
      obtain ⟨i, h3, rfl⟩ := List.mem_map.mp h2
      obtain ⟨h4, h5⟩ := List.mem_filter.mp h3
      obtain ⟨e, nd, lt⟩ := (perms_mem k s).mp h1
      have hi : i ∉ s := by simpa using h5
      refine ⟨by simp [e], List.nodup_append.mpr ⟨nd, by simp, fun a ha b hb z => hi (by rw [List.mem_singleton.mp hb] at z; rw [← z]; exact ha)⟩, fun x hx => ?_⟩
      rcases List.mem_append.mp hx with z | z
      · exact lt x z
      · rw [List.mem_singleton.mp z]; exact List.mem_range.mp h4
    · rintro ⟨e, nd, lt⟩
      rcases List.eq_nil_or_concat r with z | ⟨s, i, z⟩
      · subst z; cases e
      · rw [List.concat_eq_append] at z
        subst z
        obtain ⟨n1, _, n3⟩ := List.nodup_append.mp nd
        refine List.mem_flatMap.mpr ⟨s, (perms_mem k s).mpr ⟨by simpa using e, n1, fun x hx => lt x (by simp [hx])⟩, List.mem_map.mpr ⟨i, List.mem_filter.mpr ⟨List.mem_range.mpr (lt i (by simp)), ?_⟩, rfl⟩⟩
        have : i ∉ s := fun h => n3 i h i (by simp) rfl
        simpa using this
theorem perm_of {o : List Nat} {n : Nat} (nd : o.Nodup) (lt : ∀ i ∈ o, i < n) (len : o.length = n) : o.Perm (List.range n) :=
  (List.perm_ext_iff_of_nodup nd List.nodup_range).mpr fun i => ⟨fun h => List.mem_range.mpr (lt i h), fun h => full_of nd lt (by omega) i (List.mem_range.mp h)⟩
theorem perms_all {n : Nat} {o : List Nat} : o ∈ permsOn n n ↔ o.Perm (List.range n) := by
  rw [perms_mem]
  constructor
  · rintro ⟨h1, h2, h3⟩
    exact perm_of h2 h3 h1
  · intro p
    exact ⟨by rw [p.length_eq]; simp, p.nodup_iff.mpr List.nodup_range, fun i hi => List.mem_range.mp (p.mem_iff.mp hi)⟩
def S_all_orders : FSpec := fun avs hd Q E => ∃ n : Nat, avs = [.d (.int (n : Int))] ∧ n ≤ 6 ∧ Q (.list ((permsOn n n).map nT)) hd
theorem rd_all_orders (avs hd Q E) (h : S_all_orders avs hd Q E) : t_all_orders (fnEnds false Q) ⟨initG ["many", "found", "turn", "longer", "row", "one"] avs, hd⟩ := by
  obtain ⟨n, rfl, hn, q⟩ := h
  simp only [t_all_orders]
  simp
  refine ⟨by simp [sizeLine], by omega, fRun_inv (fun k s => k ≤ n ∧ ∃ S2 S3 S4, s = ⟨[.v (.int (n : Int)), .v (.list ((permsOn n k).map nT)), S2, S3, S4, .no], hd⟩) ?_ ?_ ⟨Nat.zero_le _, .no, .no, .no, rfl⟩⟩
  · rintro k d s N hd' ⟨hk, S2, S3, S4, rfl⟩ hN
    have hk2 : k < n := by
      have := (List.getElem?_eq_some_iff.mp hd').1
      rw [rng_nat] at this
      simpa using this
    have len := perms_len hn k (by omega)
    have pw : 6 ^ k ≤ 6 ^ 6 := Nat.pow_le_pow_right (by omega) (by omega)
    have p6 : 6 ^ 6 = 46656 := rfl
    simp
    refine fRun_inv (fun j s => ∃ S4, s = ⟨[.v (.int (n : Int)), .v (.list ((permsOn n k).map nT)), .v d, .m (.list ((((permsOn n k).take j).flatMap fun r => ((List.range n).filter fun i => !decide (i ∈ r)).map fun i => r ++ [i]).map nT)), S4, .no], hd⟩) ?_ ?_ ⟨S4, rfl⟩
    · rintro j e s N2 hd2 ⟨S4, rfl⟩ hN2
      have hj : j < (permsOn n k).length := by simpa using (List.getElem?_eq_some_iff.mp hd2).1
      have ee : e = nT (permsOn n k)[j] := by
        rw [List.getElem?_map, List.getElem?_eq_getElem hj] at hd2
        exact (Option.some.inj hd2).symm
      subst ee
      have tk := List.take_succ_eq_append_getElem hj
      rw [tk, List.flatMap_append, List.map_append] at hN2
      have rl := ((perms_mem k _).mp (List.getElem_mem hj)).1
      have fl := flat_len (f := fun r => ((List.range n).filter fun i => !decide (i ∈ r)).map fun i => r ++ [i]) (b := n) ((permsOn n k).take j) fun r _ => perms_step_len n r
      have jl : ((permsOn n k).take j).length * n ≤ 46656 * 6 := Nat.mul_le_mul (by simp; omega) hn
      generalize (permsOn n k)[j] = r at rl hN2 ⊢
      generalize (((permsOn n k).take j).flatMap fun r => ((List.range n).filter fun i => !decide (i ∈ r)).map fun i => r ++ [i]) = L at fl hN2 ⊢
      simp
      refine ⟨by omega, ?_⟩
      rw [rng_nat]
      refine ⟨by simp only [sizeLine, List.length_map, List.length_range]; omega, cRun_if _ (fun i => !decide (i ∈ r)) (fun i => nT (r ++ [i])) _ (fun i hi Y M y n => ?_) _ _ ?_⟩
      · simp [nT]
        have a1 : addD (.tuple (r.map nD)) (.tuple [nD i]) = some (nT (r ++ [i])) := app_nT (l := r) (m := [i]) (by simp; omega)
        by_cases c : i ∈ r
        · simp [c] at n ⊢
          exact n
        · simp [c] at y ⊢
          exact ⟨by simp [sizeLine], _, a1, y⟩
      · have m1 : ((List.range n).filter fun i => !decide (i ∈ r)).map (fun i => nT (r ++ [i])) = (((List.range n).filter fun i => !decide (i ∈ r)).map fun i => r ++ [i]).map nT := by rw [List.map_map]; rfl
        rw [List.nil_append, m1]
        have sl := perms_step_len n r
        refine ⟨by simp only [List.length_map, sizeLine] at *; omega, hN2 _ ⟨.v (nT r), ?_⟩⟩
        simp
    · rintro s ⟨S4, rfl⟩
      rw [List.length_map, List.take_length]
      simp
      exact hN _ ⟨hk2, _, _, _, rfl⟩
  · rintro s ⟨hk, S2, S3, S4, rfl⟩
    have e : (rngD 0 n).length = n := by rw [rng_nat]; simp
    rw [e]
    simp
    exact q
end Lw
end
section
set_option Elab.async false
set_option linter.all false
set_option maxRecDepth 100000
set_option maxHeartbeats 4000000
open PySem PySem.Spec PyProof.Rows L2 PD
namespace Lw
/-- a dict comprehension over typed items, the hand left -/
theorem dRun_at {α : Type} {g : PTG} {tk tv : PTE} {vs : List Nat} {G : List Sl} {hd : List PyData} (c : α → PyData) (f h : α → PyData) (l : List α)
    (hh : ∀ a ∈ l, keyFits false (f a) = true ∧ ∀ (Y : PyData → PyData → List PyData → Prop), Y (f a) (h a) hd → g (c a) ⟨blkG G vs, hd⟩ fun s1 => tk s1 fun k s3 => tv s3 fun y s4 => Y k y s4.hd)
    (out : List (PyData × PyData)) (Q : List (PyData × PyData) → List PyData → Prop) (q : Q (mergeD out (l.map fun a => (f a, h a))) hd) : dRun g tYs tk tv vs G (l.map c) out hd Q := by
  induction l generalizing out with
  | nil => exact q
  | cons a l ih =>
    obtain ⟨h1, h2⟩ := hh a List.mem_cons_self
    exact h2 (fun k y hd' => keyFits false k = true ∧ dRun g tYs tk tv vs G (l.map c) (insD k y out) hd' Q) ⟨h1, ih (fun x hx => hh x (List.mem_cons_of_mem _ hx)) _ q⟩
/-! ### keeps_needs -/
def keepsB (st : List (List Nat)) (o : List Nat) : Bool := (List.range st.length).all fun i => (nds st i).all fun x => decide (o.idxOf x ≤ o.idxOf i)
theorem zip_dN {o : List Nat} (nd : o.Nodup) : (o.zipIdx.map fun p => (nD p.1, nD p.2)) = dN o fun x => nD (o.idxOf x) := by
  unfold dN
  apply List.ext_getElem
  · simp
  · intro i h1 h2
    have hi : i < o.length := by simpa using h1
    simp [nd.idxOf_getElem i hi]
theorem places_dic {o : List Nat} (nd : o.Nodup) : dicD false (mergeD [] (o.zipIdx.map fun p => (nD p.1, nD p.2))) = dicP o fun x => o.idxOf x := by
  rw [zip_dN nd]
  have := merge_dN (fun x => nD (o.idxOf x)) o [] (by simpa using nd)
  have e : (dN [] fun x => nD (o.idxOf x)) = [] := rfl
  rw [e, List.nil_append] at this
  rw [this]; rfl
theorem keeps_iff {st : List (List Nat)} (v : Ok st) {o : List Nat} (p : o.Perm (List.range st.length)) : keepsB st o = true ↔ Topo st o := by
  have nd : o.Nodup := p.nodup_iff.mpr List.nodup_range
  have mem : ∀ i, i ∈ o ↔ i < st.length := fun i => p.mem_iff.trans List.mem_range
  unfold keepsB
  rw [List.all_eq_true]
  constructor
  · intro h
    refine ⟨p, fun a i s e x hx => ?_⟩
    have hi : i < st.length := (mem i).mp (by rw [e]; simp)
    have hl := List.all_eq_true.mp (h i (List.mem_range.mpr hi)) x hx
    have hl : o.idxOf x ≤ o.idxOf i := by simpa using hl
    have xl := v.nds_lt hx
    have xo : x ∈ o := (mem x).mpr xl
    rw [e] at xo nd hl
    obtain ⟨n1, n2, n3⟩ := List.nodup_append.mp nd
    have ia : i ∉ a := fun z => n3 i z i (by simp) rfl
    rcases List.mem_append.mp xo with z | z
    · exact z
    · exfalso
      have xa : x ∉ a := fun y => n3 x y x z rfl
      have xi : x ≠ i := fun y => by
        obtain ⟨r, hr⟩ := v.rank
        have q := hr i st[i] (List.getElem?_eq_getElem hi) x (by simpa [nds, List.getD_eq_getElem?_getD, hi] using hx)
        rw [y] at q
        exact Nat.lt_irrefl _ q
      have e3 : (i :: s).idxOf x = s.idxOf x + 1 := by
        have b : (i == x) = false := by simpa using Ne.symm xi
        rw [List.idxOf_cons, b]; rfl
      rw [List.idxOf_append, if_neg xa, List.idxOf_append, if_neg ia, List.idxOf_cons_self, e3] at hl
      omega
  · intro t i hi
    have hi := List.mem_range.mp hi
    refine List.all_eq_true.mpr fun x hx => ?_
    obtain ⟨a, s, e⟩ := List.append_of_mem ((mem i).mpr hi)
    have xa := t.need a i s e x hx
    rw [decide_eq_true_eq, e]
    rw [e] at nd
    obtain ⟨n1, n2, n3⟩ := List.nodup_append.mp nd
    have ia : i ∉ a := fun z => n3 i z i (by simp) rfl
    rw [List.idxOf_append, if_pos xa, List.idxOf_append, if_neg ia]
    have := List.idxOf_lt_length_of_mem xa
    omega
def S_keeps_needs : FSpec := fun avs hd Q E => ∃ st o, avs = [.d (stD st), .d (nT o)] ∧ Ok st ∧ o.Perm (List.range st.length) ∧ Q (.bool (keepsB st o)) hd
theorem rd_keeps_needs (avs hd Q E) (h : S_keeps_needs avs hd Q E) : t_keeps_needs (fnEnds false Q) ⟨initG ["stages", "order", "places", "place", "number", "lot", "need"] avs, hd⟩ := by
  obtain ⟨st, o, rfl, v, p, q⟩ := h
  have h2 := v.n2
  have nd : o.Nodup := p.nodup_iff.mpr List.nodup_range
  have ol : o.length = st.length := by rw [p.length_eq]; simp
  have mem : ∀ i, i < st.length → i ∈ o := fun i h => p.mem_iff.mpr (List.mem_range.mpr h)
  simp only [t_keeps_needs]
  simp [stD, nT]
  rw [enum_map]
  refine ⟨by simp only [sizeLine, List.length_map, List.length_zipIdx]; omega, dRun_at _ (fun a => nD a.1) (fun a => nD a.2) _ (fun a ha => ⟨fits_nD _, fun Y y => ?_⟩) _ _ ?_⟩
  · simp
    exact ⟨_, _, ⟨rfl, rfl⟩, _, _, rfl, rfl, y⟩
  · rw [places_dic nd, enum_map]
    have il : st.zipIdx.length = st.length := by simp
    refine fRun_inv (fun k s => ∃ S4 S5, s = ⟨[.v (.tuple (st.map nT)), .v (.tuple (o.map nD)), .v (dicP o fun x => o.idxOf x), .no, S4, S5, .no], hd⟩ ∧ (((List.range st.length).drop k).all fun i => (nds st i).all fun x => decide (o.idxOf x ≤ o.idxOf i)) = keepsB st o) ?_ ?_ ⟨.no, .no, rfl, rfl⟩
    · rintro k d s N hd' ⟨S4, S5, rfl, er⟩ hN
      have hk : k < st.length := by simpa using (List.getElem?_eq_some_iff.mp hd').1
      have ed : d = .tuple [nD k, nT (nds st k)] := by
        rw [List.getElem?_map, List.getElem?_eq_getElem (by simpa using hk)] at hd'
        simp at hd'
        rw [← hd']
        simp [nds, List.getD_eq_getElem?_getD, hk]
      subst ed
      rw [List.drop_eq_getElem_cons (by simpa using hk), List.all_cons, List.getElem_range] at er
      have nl := v.nds_len k
      simp [nT]
      refine ⟨_, _, ⟨rfl, rfl⟩, _, _, rfl, rfl, _, .inr rfl, by simp only [sizeLine, List.length_map]; omega, cRun_of _ (fun x => .bool (decide (o.idxOf k < o.idxOf x))) _ (fun x hx Y y => ?_) _ _ ?_⟩
      · simp [ix_dicP (mem x (v.nds_lt hx)), ix_dicP (mem k hk), gt_nDD]
        exact y
      · simp only [List.nil_append, anyD_map]
        have e2 : ((nds st k).all fun x => decide (o.idxOf x ≤ o.idxOf k)) = !((nds st k).any fun x => decide (o.idxOf k < o.idxOf x)) := by
          rw [List.not_any_eq_all_not]
          congr 1
          funext x
          by_cases c : o.idxOf x ≤ o.idxOf k
          · rw [decide_eq_true c, decide_eq_false (by omega)]; rfl
          · rw [decide_eq_false c, decide_eq_true (by omega)]; rfl
        rw [e2] at er
        refine ⟨_, rfl, ?_⟩
        cases c : (nds st k).any fun x => decide (o.idxOf k < o.idxOf x) with
        | true =>
          rw [c] at er
          have er : false = keepsB st o := er
          rw [← er] at q
          simpa using q
        | false =>
          rw [c] at er
          simp
          exact hN _ ⟨_, _, rfl, er⟩
    · rintro s ⟨S4, S5, rfl, er⟩
      rw [List.length_map, il, List.drop_eq_nil_of_le (by simp)] at er
      have er : true = keepsB st o := er
      rw [← er] at q
      simpa using q
end Lw
end
section
set_option Elab.async false
set_option linter.all false
set_option maxRecDepth 100000
set_option maxHeartbeats 4000000
open PySem PySem.Spec PyProof.Rows L2 PD
namespace Lw
/-! ### orders that keep what is needed -/
def topsOn (st : List (List Nat)) : Nat → List (List Nat)
  | 0 => [[]]
  | k + 1 => (topsOn st k).flatMap fun r => (free st r).map fun i => r ++ [i]
structure Pre (st : List (List Nat)) (k : Nat) (r : List Nat) : Prop where
  len : r.length = k
  nd : r.Nodup
  lt : ∀ i ∈ r, i < st.length
  need : ∀ p i s, r = p ++ i :: s → ∀ x ∈ nds st i, x ∈ p
theorem Pre.nil {st : List (List Nat)} : Pre st 0 [] := ⟨rfl, List.nodup_nil, (fun _ h => nomatch h), fun p i s e => by cases p <;> cases e⟩
theorem Pre.snoc {st : List (List Nat)} {k : Nat} {r : List Nat} (h : Pre st k r) {i : Nat} (hi : i ∈ free st r) : Pre st (k + 1) (r ++ [i]) := by
  obtain ⟨f1, f2, f3⟩ := free_mem hi
  refine ⟨by simp [h.len], List.nodup_append.mpr ⟨h.nd, by simp, fun a ha b hb z => f2 (by rw [List.mem_singleton.mp hb] at z; rw [← z]; exact ha)⟩, fun x hx => ?_, fun p j s e x hx => ?_⟩
  · rcases List.mem_append.mp hx with z | z
    · exact h.lt x z
    · rw [List.mem_singleton.mp z]; exact f1
  · rcases List.eq_nil_or_concat s with z | ⟨s0, b, z⟩
    · subst z
      obtain ⟨e1, e2⟩ := List.append_inj' e rfl
      cases e2
      rw [← e1]
      exact f3 x hx
    · subst z
      rw [List.concat_eq_append, ← List.cons_append, ← List.append_assoc] at e
      obtain ⟨e1, _⟩ := List.append_inj' e rfl
      exact h.need p j s0 e1 x hx
theorem Pre.init {st : List (List Nat)} {k : Nat} {r : List Nat} {i : Nat} (h : Pre st (k + 1) (r ++ [i])) : Pre st k r ∧ i ∈ free st r := by
  obtain ⟨n1, _, n3⟩ := List.nodup_append.mp h.nd
  refine ⟨⟨by have := h.len; simpa using this, n1, fun x hx => h.lt x (by simp [hx]), fun p j s e x hx => h.need p j (s ++ [i]) (by rw [e]; simp) x hx⟩, List.mem_filter.mpr ⟨List.mem_range.mpr (h.lt i (by simp)), ?_⟩⟩
  unfold ready
  rw [Bool.and_eq_true]
  have : i ∉ r := fun z => n3 i z i (by simp) rfl
  exact ⟨by simpa using this, List.all_eq_true.mpr fun x hx => by simpa using h.need r i [] rfl x hx⟩
theorem tops_mem {st : List (List Nat)} : ∀ k r, r ∈ topsOn st k ↔ Pre st k r
  | 0, r => by
    constructor
    · intro h
      have : r = [] := by simpa [topsOn] using h
      subst this
      exact Pre.nil
    · intro h
      have := List.length_eq_zero_iff.mp h.len
      subst this
      exact List.mem_singleton.mpr rfl
  | k + 1, r => by
    constructor
    · intro h
      obtain ⟨s, h1, h2⟩ := List.mem_flatMap.mp h
      obtain ⟨i, h3, rfl⟩ := List.mem_map.mp h2
      exact ((tops_mem k s).mp h1).snoc h3
    · intro h
      rcases List.eq_nil_or_concat r with z | ⟨s, i, z⟩
      · subst z; have := h.len; cases this
      · rw [List.concat_eq_append] at z
        subst z
        obtain ⟨h1, h2⟩ := h.init
        exact List.mem_flatMap.mpr ⟨s, (tops_mem k s).mpr h1, List.mem_map.mpr ⟨i, h2, rfl⟩⟩
theorem Pre.topo {st : List (List Nat)} {o : List Nat} (h : Pre st st.length o) : Topo st o := ⟨perm_of h.nd h.lt h.len, h.need⟩
theorem Topo.pre {st : List (List Nat)} {o : List Nat} (t : Topo st o) : Pre st st.length o := ⟨by rw [t.perm.length_eq]; simp, t.nd, fun i hi => t.mem.mp hi, t.need⟩
def tops (st : List (List Nat)) : List (List Nat) := topsOn st st.length
theorem tops_all {st : List (List Nat)} {o : List Nat} : o ∈ tops st ↔ Topo st o := (tops_mem _ _).trans ⟨fun h => h.topo, fun h => h.pre⟩
theorem free_len (st : List (List Nat)) (r : List Nat) : ((free st r).map fun i => r ++ [i]).length ≤ st.length := by
  rw [List.length_map]
  exact Nat.le_trans (List.length_filter_le _ _) (by simp)
theorem tops_len {st : List (List Nat)} (h : st.length ≤ 6) : ∀ k, k ≤ 6 → (topsOn st k).length ≤ 6 ^ k
  | 0, _ => Nat.le_refl _
  | k + 1, hk => by
    have ih := tops_len h k (by omega)
    have : (topsOn st (k + 1)).length ≤ (topsOn st k).length * st.length := flat_len (f := fun r => (free st r).map fun i => r ++ [i]) (b := st.length) (topsOn st k) fun r _ => free_len st r
    rw [Nat.pow_succ]
    exact Nat.le_trans this (Nat.mul_le_mul ih h)
theorem Pre.free_ne {st : List (List Nat)} (v : Ok st) {k : Nat} {r : List Nat} (h : Pre st k r) (hk : k < st.length) : free st r ≠ [] := v.free_ne (by
  by_cases q : ∃ i, i < st.length ∧ i ∉ r
  · exact q
  · have s : List.range st.length ⊆ r := fun x hx => by
      by_cases z : x ∈ r
      · exact z
      · exact absurd ⟨x, List.mem_range.mp hx, z⟩ q
    have := List.nodup_range.length_le_of_subset s
    rw [List.length_range, h.len] at this
    omega)
theorem tops_ne {st : List (List Nat)} (v : Ok st) : tops st ≠ [] := by
  have : ord st ∈ tops st := by
    obtain ⟨h1, h2, h3, h4⟩ := ord_all v
    exact tops_all.mpr ⟨perm_of h1 h2 h3, fun p i s e => topo v st.length (Nat.le_refl _) p s i e⟩
  exact List.ne_nil_of_mem this
/-! ### the readings -/
def S__law_all_orders : FSpec := fun avs hd Q E => ∃ st, avs = [.d (stD st)] ∧ Ok st ∧ st.length ≤ 6 ∧ Q (.list ((tops st).map nT)) hd
theorem rd__law_all_orders (avs hd Q E) (h : S__law_all_orders avs hd Q E) : t__law_all_orders (fnEnds false Q) ⟨initG ["some", "rows", "lap", "longer", "row", "one", "other"] avs, hd⟩ := by
  obtain ⟨st, rfl, v, hn, q⟩ := h
  simp only [t__law_all_orders]
  simp [stD]
  have e0 : (rngD 0 st.length).length = st.length := by rw [rng_nat]; simp
  refine ⟨by simp [sizeLine], by omega, fRun_inv (fun k s => k ≤ st.length ∧ ∃ S2 S3 S4 S5, s = ⟨[.v (.tuple (st.map nT)), .v (.list ((topsOn st k).map nT)), S2, S3, S4, S5, .no], hd⟩) ?_ ?_ ⟨Nat.zero_le _, .no, .no, .no, .no, rfl⟩⟩
  · rintro k d s N hd' ⟨hk, S2, S3, S4, S5, rfl⟩ hN
    have hk2 : k < st.length := by
      have := (List.getElem?_eq_some_iff.mp hd').1
      rw [e0] at this
      exact this
    have len := tops_len hn k (by omega)
    have pw : 6 ^ k ≤ 6 ^ 6 := Nat.pow_le_pow_right (by omega) (by omega)
    have p6 : 6 ^ 6 = 46656 := rfl
    simp
    refine fRun_inv (fun j s => ∃ S4 S5, s = ⟨[.v (.tuple (st.map nT)), .v (.list ((topsOn st k).map nT)), .v d, .m (.list ((((topsOn st k).take j).flatMap fun r => (free st r).map fun i => r ++ [i]).map nT)), S4, S5, .no], hd⟩) ?_ ?_ ⟨S4, S5, rfl⟩
    · rintro j e s N2 hd2 ⟨S4, S5, rfl⟩ hN2
      have hj : j < (topsOn st k).length := by simpa using (List.getElem?_eq_some_iff.mp hd2).1
      have ee : e = nT (topsOn st k)[j] := by
        rw [List.getElem?_map, List.getElem?_eq_getElem hj] at hd2
        exact (Option.some.inj hd2).symm
      subst ee
      have tk := List.take_succ_eq_append_getElem hj
      rw [tk, List.flatMap_append, List.map_append] at hN2
      have pr := (tops_mem k _).mp (List.getElem_mem hj)
      have fl := flat_len (f := fun r => (free st r).map fun i => r ++ [i]) (b := st.length) ((topsOn st k).take j) fun r _ => free_len st r
      have jl : ((topsOn st k).take j).length * st.length ≤ 46656 * 6 := Nat.mul_le_mul (by simp; omega) hn
      generalize (topsOn st k)[j] = r at pr hN2 ⊢
      generalize (((topsOn st k).take j).flatMap fun r => (free st r).map fun i => r ++ [i]) = L at fl hN2 ⊢
      have rl := pr.len
      simp
      refine ⟨by omega, ?_⟩
      rw [rng_nat]
      refine fRun_inv (fun m s => ∃ S5, s = ⟨[.v (.tuple (st.map nT)), .v (.list ((topsOn st k).map nT)), .v d, .m (.list (L.map nT ++ (((((List.range st.length).take m).filter (ready st r)).map fun i => r ++ [i]).map nT))), .v (nT r), S5, .no], hd⟩) ?_ ?_ ⟨S5, by simp⟩
      · rintro m e s N3 hd3 ⟨S5, rfl⟩ hN3
        have hm : m < st.length := by simpa using (List.getElem?_eq_some_iff.mp hd3).1
        have ee : e = nD m := by
          rw [List.getElem?_map, List.getElem?_eq_getElem (by simpa using hm)] at hd3
          simpa using (Option.some.inj hd3).symm
        subst ee
        have tk := List.take_succ_eq_append_getElem (l := List.range st.length) (i := m) (by simpa using hm)
        rw [tk, List.filter_append, List.map_append, List.map_append] at hN3
        have ml : (((List.range st.length).take m).filter (ready st r)).length ≤ m := Nat.le_trans (List.length_filter_le _ _) (by simp; omega)
        generalize ((List.range st.length).take m).filter (ready st r) = M at ml hN3 ⊢
        have eg : (List.range st.length)[m]'(by simpa using hm) = m := by simp
        rw [eg] at hN3
        have no : ready st r m = false → (List.filter (ready st r) [m]) = [] := fun h => by rw [List.filter_cons, if_neg (by rw [h]; simp)]; rfl
        have yes : ready st r m = true → (List.filter (ready st r) [m]) = [m] := fun h => by rw [List.filter_cons, if_pos h]; rfl
        simp [nT]
        by_cases c : m ∈ r
        · rw [no (by unfold ready; simp [c])] at hN3
          simp [c]
          exact hN3 _ ⟨.v (nD m), by simp [nT]⟩
        · have nl := v.nds_len m
          simp [c, ix_st hm, nT]
          refine ⟨by simp only [sizeLine]; omega, cRun_of _ (fun x => .bool (decide (x ∈ r))) _ (fun x hx Y y => ?_) _ _ ?_⟩
          · simp
            exact y
          · simp only [List.nil_append, allD_map]
            refine ⟨_, rfl, ?_⟩
            cases b : (nds st m).all fun x => decide (x ∈ r) with
            | false =>
              rw [no (by unfold ready; rw [b]; simp)] at hN3
              simp
              exact hN3 _ ⟨.v (nD m), by simp [nT]⟩
            | true =>
              rw [yes (by unfold ready; rw [b]; simp [c])] at hN3
              have a1 : addD (.tuple (r.map nD)) (.tuple [nD m]) = some (nT (r ++ [m])) := app_nT (l := r) (m := [m]) (by simp; omega)
              simp [a1]
              exact ⟨by simp [sizeLine], by simp only [sizeLine]; omega, hN3 _ ⟨.v (nD m), by simp [nT]⟩⟩
      · rintro s ⟨S5, rfl⟩
        rw [List.length_map, List.take_length] 
        exact hN2 _ ⟨.v (nT r), S5, by simp [free]⟩
    · rintro s ⟨S4, S5, rfl⟩
      rw [List.length_map, List.take_length]
      simp
      exact hN _ ⟨hk2, _, _, _, _, rfl⟩
  · rintro s ⟨hk, S2, S3, S4, S5, rfl⟩
    rw [e0]
    simp
    exact q
def S__law_drawn_order : FSpec := fun avs hd Q E => ∃ st, avs = [.hand, .d (stD st)] ∧ Ok st ∧ HandD hd ∧ ∀ o hd', Topo st o → HandD hd' → Q (nT o) hd'
theorem rd__law_drawn_order (avs hd Q E) (h : S__law_drawn_order avs hd Q E) : t__law_drawn_order S__law_any (fnEnds false Q) ⟨initG ["hand", "some", "found", "lap", "one", "other"] avs, hd⟩ := by
  obtain ⟨st, rfl, v, hh, q⟩ := h
  have h2 := v.n2
  have e0 : (rngD 0 st.length).length = st.length := by rw [rng_nat]; simp
  simp only [t__law_drawn_order]
  simp [stD]
  refine ⟨by omega, fRun_inv (fun k s => ∃ r S3 hd', s = ⟨[.h, .v (.tuple (st.map nT)), .m (.list (r.map nD)), S3, .no, .no], hd'⟩ ∧ Pre st k r ∧ HandD hd') ?_ ?_ ⟨[], .no, hd, rfl, Pre.nil, hh⟩⟩
  · rintro k d s N hd' ⟨r, S3, hd2, rfl, pr, hh2⟩ hN
    have hk : k < st.length := by
      have := (List.getElem?_eq_some_iff.mp hd').1
      rw [e0] at this
      exact this
    have rl := pr.len
    simp
    refine ⟨by omega, ?_⟩
    rw [rng_nat]
    refine ⟨by simp only [sizeLine, List.length_map, List.length_range]; omega, cRun_if _ (ready st r) nD _ (fun a ha Y M y n => ?_) _ _ ?_⟩
    · have ha := List.mem_range.mp ha
      simp
      by_cases hm : a ∈ r
      · simp [hm]
        exact n (by simp [ready, hm])
      · have nl := v.nds_len a
        simp [hm, ix_st ha, nT]
        refine ⟨by simp only [sizeLine]; omega, cRun_of _ (fun x => .bool (decide (x ∈ r))) _ (fun x hx Y y => ?_) _ _ ?_⟩
        · simp
          exact y
        · simp only [List.nil_append, allD_map]
          refine ⟨_, rfl, ?_⟩
          cases b : (nds st a).all fun x => decide (x ∈ r) with
          | true => simpa using y (by unfold ready; rw [b]; simp [hm])
          | false => simpa using n (by unfold ready; rw [b]; simp)
    · have ef : (List.range st.length).filter (ready st r) = free st r := rfl
      have ne := pr.free_ne v hk
      have fl : (free st r).length ≤ st.length := Nat.le_trans (List.length_filter_le _ _) (by simp)
      rw [ef, List.nil_append]
      simp [S__law_any, and_assoc]
      refine ⟨List.length_pos_iff.mpr ne, by omega, hh2, fun i hi hd3 hh3 => ?_⟩
      exact ⟨by simp only [sizeLine]; omega, hN _ ⟨r ++ [i], _, _, by simp; rfl, pr.snoc hi, hh3⟩⟩
  · rintro s ⟨r, S3, hd', rfl, pr, hh'⟩
    rw [e0] at pr
    simp
    exact q _ _ pr.topo hh'
/-! ### hands, ends, in_turn -/
def S_check_hands : FSpec := fun avs hd Q E => ∃ st ts h, avs = [.d (stD st), .d (nT ts), .d (nD h)] ∧ Ok st ∧ ts.length = st.length ∧ (∀ x ∈ ts, x ≤ 100) ∧ 1 ≤ h ∧ h ≤ 4 ∧ Q .none hd
theorem rd_check_hands (avs hd Q E) (h : S_check_hands avs hd Q E) : t_check_hands S_is_within S_check_times (fnEnds false Q) ⟨initG ["stages", "times", "hands"] avs, hd⟩ := by
  obtain ⟨st, ts, h, rfl, v, ht, hx, h1, h4, q⟩ := h
  simp [t_check_hands, S_check_times, S_is_within, and_assoc]
  refine ⟨st, rfl, ts, rfl, v, ht, hx, ?_⟩
  exact ⟨by omega, by omega, q⟩
def S_in_turn : FSpec := fun avs hd Q E => ∃ st ts o h, avs = [.d (stD st), .d (nT ts), .d (nD h), .d (nT o)] ∧ Ok st ∧ ts.length = st.length ∧ (∀ x ∈ ts, x ≤ 100) ∧ Topo st o ∧ 1 ≤ h ∧ h ≤ 4 ∧ Q (nT (planL st ts h o)) hd
theorem rd_in_turn (avs hd Q E) (h : S_in_turn avs hd Q E) : t_in_turn S_is_order S_keeps_needs S_check_hands S_raw_in_turn (fnEnds false Q) ⟨initG ["stages", "times", "hands", "order"] avs, hd⟩ := by
  obtain ⟨st, ts, o, h, rfl, v, ht, hx, t, h1, h4, q⟩ := h
  have h2 := v.n2
  simp [t_in_turn, S_check_hands, and_assoc]
  refine ⟨st, rfl, ts, rfl, h, rfl, v, ht, hx, h1, h4, ?_⟩
  refine ⟨_, lenD_tuple _, ?_⟩
  rw [List.length_map]
  refine ⟨o, st.length, rfl, t.perm, by omega, rfl, st, o, rfl, v, t.perm, ?_, st, ts, o, h, rfl, v, ht, t, h1, q⟩
  rw [(keeps_iff v t.perm).mpr t]
end Lw
end
section
set_option Elab.async false
set_option linter.all false
set_option maxRecDepth 100000
set_option maxHeartbeats 4000000
open PySem PySem.Spec PyProof.Rows L2 PD
namespace Lw
/-! ### the end of a plan -/
def endL (ts p : List Nat) : Nat := gr ((p.zip ts).map fun q => q.1 + q.2)
theorem zip_run (p ts : List Nat) (hl : p.length = ts.length) (h1 : 1 ≤ ts.length) : maxOfD [.list ((p.zip ts).map fun q => nD (q.1 + q.2))] = some (nD (endL ts p)) := by
  have e : ((p.zip ts).map fun q => nD (q.1 + q.2)) = ((p.zip ts).map fun q => q.1 + q.2).map nD := by rw [List.map_map]; rfl
  rw [e]
  unfold endL
  cases c : (p.zip ts).map fun q => q.1 + q.2 with
  | nil =>
    have := congrArg List.length c
    rw [List.length_map, List.length_zip, List.length_nil] at this
    omega
  | cons x l => exact maxOf_nD x l
def S_end_of : FSpec := fun avs hd Q E => ∃ p ts, avs = [.d (nT p), .d (nT ts)] ∧ p.length = ts.length ∧ 1 ≤ ts.length ∧ ts.length ≤ 1000 ∧ Q (nD (endL ts p)) hd
theorem rd_end_of (avs hd Q E) (h : S_end_of avs hd Q E) : t_end_of (fnEnds false Q) ⟨initG ["plan", "times", "begin", "time"] avs, hd⟩ := by
  obtain ⟨p, ts, rfl, hl, h1, h2, q⟩ := h
  simp only [t_end_of]
  simp [nT]
  refine ⟨_, _, ⟨rfl, rfl⟩, ?_⟩
  rw [zip_nD]
  refine ⟨by simp only [sizeLine, List.length_map, List.length_zip]; omega, cRun_of _ (fun q => nD (q.1 + q.2)) _ (fun x hx Y y => ?_) _ _ ?_⟩
  · simp [add_nD]
    exact ⟨_, _, ⟨rfl, rfl⟩, _, _, rfl, rfl, _, add_nD _ _, y⟩
  · exact ⟨_, zip_run p ts hl h1, q⟩
def S__law_end : FSpec := fun avs hd Q E => ∃ p ts, avs = [.d (nT ts), .d (nT p)] ∧ p.length = ts.length ∧ 1 ≤ ts.length ∧ ts.length ≤ 1000 ∧ Q (nD (endL ts p)) hd
theorem rd__law_end (avs hd Q E) (h : S__law_end avs hd Q E) : t__law_end (fnEnds false Q) ⟨initG ["times", "plan", "begin", "time"] avs, hd⟩ := by
  obtain ⟨p, ts, rfl, hl, h1, h2, q⟩ := h
  simp only [t__law_end]
  simp [nT]
  refine ⟨_, _, ⟨rfl, rfl⟩, ?_⟩
  rw [zip_nD]
  refine ⟨by simp only [sizeLine, List.length_map, List.length_zip]; omega, cRun_of _ (fun q => nD (q.1 + q.2)) _ (fun x hx Y y => ?_) _ _ ?_⟩
  · simp [add_nD]
    exact ⟨_, _, ⟨rfl, rfl⟩, _, _, rfl, rfl, _, add_nD _ _, y⟩
  · exact ⟨_, zip_run p ts hl h1, q⟩
/-! ### plans among all things -/
def natsOf : List PyData → Option (List Nat)
  | [] => some []
  | .int i :: ds => if 0 ≤ i then (natsOf ds).map (i.toNat :: ·) else none
  | _ => none
def toP : PyData → Option (List Nat)
  | .tuple ds => natsOf ds
  | _ => none
def posI (hi : Option Int) : PyData → Bool
  | .int i => decide (0 ≤ i) && (match hi with | none => true | some b => decide (i ≤ b))
  | _ => false
theorem natsOf_some : ∀ {ds : List PyData} {p : List Nat}, natsOf ds = some p → ds = p.map nD
  | [], _, h => by cases h; rfl
  | d :: ds, p, h => by
    cases d with
    | int i =>
      unfold natsOf at h
      by_cases c : 0 ≤ i
      · rw [if_pos c] at h
        cases e : natsOf ds with
        | none => rw [e] at h; cases h
        | some q =>
          rw [e] at h
          cases h
          rw [natsOf_some e, List.map_cons]
          congr 1
          unfold nD; congr 1; omega
      · rw [if_neg c] at h; cases h
    | _ => cases h
theorem natsOf_nD : ∀ p : List Nat, natsOf (p.map nD) = some p
  | [] => rfl
  | n :: p => by
    rw [List.map_cons]
    show (if (0 : Int) ≤ (n : Int) then _ else _) = _
    rw [if_pos (by omega), natsOf_nD p]
    simp
theorem natsOf_none (hi : Option Int) : ∀ {ds : List PyData}, natsOf ds = none → ds.all (posI hi) = false
  | [], h => by cases h
  | d :: ds, h => by
    rw [List.all_cons]
    cases d with
    | int i =>
      unfold natsOf at h
      by_cases c : 0 ≤ i
      · rw [if_pos c] at h
        cases e : natsOf ds with
        | none => rw [natsOf_none hi e, Bool.and_false]
        | some q => rw [e] at h; cases h
      · have z : posI hi (.int i) = false := by
          show (decide (0 ≤ i) && _) = false
          rw [decide_eq_false c]; rfl
        rw [z]; rfl
    | _ => rfl
theorem posI_nD (hi : Option Int) (n : Nat) (h : ∀ b, hi = some b → (n : Int) ≤ b) : posI hi (nD n) = true := by
  unfold posI nD
  cases hi with
  | none => simp
  | some b => simp [h b rfl]
theorem all_posI (hi : Option Int) (p : List Nat) (h : ∀ n ∈ p, ∀ b, hi = some b → (n : Int) ≤ b) : (p.map nD).all (posI hi) = true := by
  rw [List.all_eq_true]
  intro d hd
  obtain ⟨n, hn, rfl⟩ := List.mem_map.mp hd
  exact posI_nD hi n (h n hn)
def needsB (st : List (List Nat)) (ts p : List Nat) : Bool := (List.range st.length).all fun i => (nds st i).all fun x => decide (at0 p x + at0 ts x ≤ at0 p i)
def planB (st : List (List Nat)) (ts : List Nat) (h : Nat) (d : PyData) : Bool := match toP d with
  | none => false
  | some p => decide (p.length = st.length) && (needsB st ts p && isLet ts h (List.range st.length) (at0 p))
theorem enK_dic (p : List Nat) : dicD false (mergeD [] (enKD (p.map nD))) = dicP (List.range p.length) (at0 p) := by
  have e : enKD (p.map nD) = dN (List.range p.length) fun i => nD (at0 p i) := by
    unfold enKD dN
    apply List.ext_getElem
    · simp
    · intro i h1 h2
      have hi : i < p.length := by simpa using h2
      simp [at0, List.getD_eq_getElem?_getD, hi, nD]
  rw [e]
  have := merge_dN (fun i => nD (at0 p i)) (List.range p.length) [] (by simpa using List.nodup_range)
  have e : (dN [] fun i => nD (at0 p i)) = [] := rfl
  rw [e, List.nil_append] at this
  rw [this]; rfl
theorem let_plan (ts p : List Nat) (h : Nat) (n : Nat) (hn : p.length = n) : (p.all fun m => decide (cnt ts (List.range n) (at0 p) m ≤ h)) = isLet ts h (List.range n) (at0 p) := by
  have e : p = (List.range n).map (at0 p) := by
    apply List.ext_getElem
    · simp [hn]
    · intro i h1 h2
      simp [at0, List.getD_eq_getElem?_getD, h1]
  unfold isLet
  conv => lhs; rw [e, List.all_map]
  rw [← e]
  rfl
/-- what is asked of a thing that may be a plan -/
structure Fit (d : PyData) : Prop where
  len : ∀ ds, d = .tuple ds → ds.length ≤ 1000
  small : ∀ ds, d = .tuple ds → ∀ i, PyData.int i ∈ ds → i ≤ 1000000
def S_is_plan_for : FSpec := fun avs hd Q E => ∃ st ts h d, avs = [.d (stD st), .d (nT ts), .d (nD h), .d d] ∧ Ok st ∧ ts.length = st.length ∧ Fit d ∧ Q (.bool (planB st ts h d)) hd
theorem pow40 : powD (.int 10) (.int 40) = some (.int 10000000000000000000000000000000000000000) := rfl
theorem cRun_id {g : PTG} {te : PTE} {vs : List Nat} {G : List Sl} {hd : List PyData} (f : PyData → PyData) (ds : List PyData)
    (h : ∀ a ∈ ds, ∀ (Y : PyData → List PyData → Prop), Y (f a) hd → g a ⟨blkG G vs, hd⟩ fun s1 => te s1 fun y s3 => Y y s3.hd)
    (out : List PyData) (Q : List PyData → List PyData → Prop) (q : Q (out ++ ds.map f) hd) : cRun g tYs te vs G ds out hd Q := by
  have := cRun_of (fun d => d) f ds h out Q q
  rwa [List.map_id'] at this
theorem within_posI (d : PyData) (b : Int) : within d 0 b = posI (some b) d := by
  cases d with
  | int i =>
    show decide (0 ≤ i ∧ i ≤ b) = (decide (0 ≤ i) && decide (i ≤ b))
    rw [Bool.decide_and]
  | _ => rfl
theorem not_sized {d : PyData} {n : Nat} (c : ¬ ∃ ds, d = .tuple ds ∧ ds.length = n) : sized d n n = false := by
  cases d with
  | tuple ds =>
    have : ds.length ≠ n := fun e => c ⟨ds, rfl, e⟩
    show decide _ = false
    rw [decide_eq_false]
    omega
  | _ => rfl
theorem plan_no {st : List (List Nat)} {ts : List Nat} {h : Nat} {d : PyData} (c : ¬ ∃ ds, d = .tuple ds ∧ ds.length = st.length) : planB st ts h d = false := by
  unfold planB
  cases e : toP d with
  | none => rfl
  | some p =>
    cases d with
    | tuple ds =>
      have e2 := natsOf_some (show natsOf ds = some p from e)
      have : p.length ≠ st.length := fun z => c ⟨ds, rfl, by rw [e2, List.length_map]; exact z⟩
      show (decide _ && _) = false
      rw [decide_eq_false this]; rfl
    | _ => cases e
theorem gt_flip {α : Type} (l : List α) (f g : α → Nat) : (l.all fun x => decide (f x ≤ g x)) = !(l.any fun x => decide (g x < f x)) := by
  rw [List.not_any_eq_all_not]
  congr 1
  funext x
  by_cases c : f x ≤ g x
  · rw [decide_eq_true c, decide_eq_false (by omega)]; rfl
  · rw [decide_eq_false c, decide_eq_true (by omega)]; rfl
theorem enum_st {st : List (List Nat)} {k : Nat} {d : PyData} (h : (enumD (st.map nT))[k]? = some d) : k < st.length ∧ d = .tuple [nD k, nT (nds st k)] := by
  rw [enum_map] at h
  have hk : k < st.length := by simpa using (List.getElem?_eq_some_iff.mp h).1
  refine ⟨hk, ?_⟩
  rw [List.getElem?_map, List.getElem?_eq_getElem (by simpa using hk)] at h
  simp at h
  rw [← h]
  simp [nds, List.getD_eq_getElem?_getD, hk]
theorem enum_len (st : List (List Nat)) : (enumD (st.map nT)).length = st.length := by rw [enum_map]; simp
theorem drop_all (n k : Nat) (hk : k < n) (f : Nat → Bool) : ((List.range n).drop k).all f = (f k && ((List.range n).drop (k + 1)).all f) := by
  rw [List.drop_eq_getElem_cons (by simpa using hk), List.all_cons, List.getElem_range]
theorem rd_is_plan_for (avs hd Q E) (h : S_is_plan_for avs hd Q E) : t_is_plan_for S_is_within S_is_sized S_is_let (fnEnds false Q) ⟨initG ["stages", "times", "hands", "thing", "one", "number", "lot", "need"] avs, hd⟩ := by
  obtain ⟨st, ts, h, d, rfl, v, ht, ft, q⟩ := h
  have h2 := v.n2
  simp only [t_is_plan_for]
  simp [S_is_sized, stD, and_assoc]
  by_cases c : ∃ ds, d = .tuple ds ∧ ds.length = st.length
  · obtain ⟨ds, rfl, dl⟩ := c
    simp [dl]
    refine ⟨by simp only [sizeLine]; omega, cRun_id (fun x => .bool (posI (some 9999999999999999999999999999999999999999) x)) _ (fun x hx Y y => ?_) _ _ ?_⟩
    · simp [pow40, S_is_within, and_assoc]
      rw [within_posI]
      exact y
    · simp only [List.nil_append, allD_map]
      refine ⟨_, rfl, ?_⟩
      cases e : natsOf ds with
      | none =>
        rw [natsOf_none _ e]
        have : planB st ts h (.tuple ds) = false := by
          unfold planB
          rw [show toP (.tuple ds) = none from e]
        rw [this] at q
        exact .inl ⟨rfl, q⟩
      | some p =>
        have e2 := natsOf_some e
        have sm := ft.small ds rfl
        subst e2
        have pl : p.length = st.length := by simpa using dl
        rw [all_posI _ p fun n hn b hb => by
          have := sm n (List.mem_map.mpr ⟨n, hn, rfl⟩)
          have := Option.some.inj hb
          omega]
        have ep : planB st ts h (.tuple (p.map nD)) = (needsB st ts p && isLet ts h (List.range st.length) (at0 p)) := by
          unfold planB
          rw [show toP (.tuple (p.map nD)) = some p from e]
          show (decide _ && _) = _
          rw [decide_eq_true pl]; rfl
        rw [ep] at q
        refine .inr ⟨rfl, fRun_inv (fun k s => ∃ S5 S6, s = ⟨[.v (.tuple (st.map nT)), .v (nT ts), .v (nD h), .v (.tuple (p.map nD)), .no, S5, S6, .no], hd⟩ ∧ (((List.range st.length).drop k).all fun i => (nds st i).all fun x => decide (at0 p x + at0 ts x ≤ at0 p i)) = needsB st ts p) ?_ ?_ ⟨.no, .no, rfl, rfl⟩⟩
        · rintro k d s N hd' ⟨S5, S6, rfl, er⟩ hN
          obtain ⟨hk, rfl⟩ := enum_st hd'
          rw [drop_all _ _ hk, gt_flip _ (fun x => at0 p x + at0 ts x) (fun _ => at0 p k)] at er
          have nl := v.nds_len k
          simp [nT]
          refine ⟨_, _, ⟨rfl, rfl⟩, _, _, rfl, rfl, _, .inr rfl, by simp only [sizeLine, List.length_map]; omega, cRun_of _ (fun x => .bool (decide (at0 p k < at0 p x + at0 ts x))) _ (fun x hx Y y => ?_) _ _ ?_⟩
          · have xl := v.nds_lt hx
            simp [ix_nT (l := p) (a := x) (by omega), ix_nT (l := ts) (a := x) (by omega), ix_nT (l := p) (a := k) (by omega), add_nD, gt_nDD]
            exact y
          · simp only [List.nil_append, anyD_map]
            refine ⟨_, rfl, ?_⟩
            cases c : (nds st k).any fun x => decide (at0 p k < at0 p x + at0 ts x) with
            | true =>
              rw [c] at er
              have er : false = needsB st ts p := er
              rw [← er] at q
              simpa using q
            | false =>
              rw [c] at er
              simp
              exact hN _ ⟨_, _, rfl, er⟩
        · rintro s ⟨S5, S6, rfl, er⟩
          rw [enum_len, List.drop_eq_nil_of_le (by simp)] at er
          have er : true = needsB st ts p := er
          rw [← er] at q
          simp
          refine ⟨by simp only [sizeLine]; omega, ?_⟩
          rw [enK_dic, pl]
          exact ⟨ts, List.range st.length, at0 p, h, rfl, fun i hi => by have := List.mem_range.mp hi; omega, by simp; omega, q⟩
  · rw [plan_no c] at q
    rw [not_sized c]
    simpa using q
end Lw
end
section
set_option Elab.async false
set_option linter.all false
set_option maxRecDepth 100000
set_option maxHeartbeats 4000000
open PySem PySem.Spec PyProof.Rows L2 PD
namespace Lw
def S__law_is_plan : FSpec := fun avs hd Q E => ∃ st ts h d, avs = [.d (stD st), .d (nT ts), .d (nD h), .d d] ∧ Ok st ∧ ts.length = st.length ∧ Fit d ∧ Q (.bool (planB st ts h d)) hd
theorem rd__law_is_plan (avs hd Q E) (h : S__law_is_plan avs hd Q E) : t__law_is_plan S__law_is_integer (fnEnds false Q) ⟨initG ["some", "times", "hands", "thing", "one", "row", "other", "moment", "at_work"] avs, hd⟩ := by
  obtain ⟨st, ts, h, d, rfl, v, ht, ft, q⟩ := h
  have h2 := v.n2
  simp only [t__law_is_plan]
  by_cases c : ∃ ds, d = .tuple ds ∧ ds.length = st.length
  · obtain ⟨ds, rfl, dl⟩ := c
    simp [stD, dl]
    refine ⟨by simp only [sizeLine]; omega, cRun_id (fun x => .bool (posI none x)) _ (fun x hx Y y => ?_) _ _ ?_⟩
    · simp [S__law_is_integer, and_assoc]
      cases x with
      | int i =>
        have e : posI none (.int i) = decide (0 ≤ i) := by show (decide (0 ≤ i) && true) = _; rw [Bool.and_true]
        rw [e] at y
        simp
        exact y
      | _ => simpa [isI, posI] using y
    · simp only [List.nil_append, allD_map]
      refine ⟨_, rfl, ?_⟩
      cases e : natsOf ds with
      | none =>
        rw [natsOf_none _ e]
        have : planB st ts h (.tuple ds) = false := by
          unfold planB
          rw [show toP (.tuple ds) = none from e]
        rw [this] at q
        exact .inl ⟨rfl, q⟩
      | some p =>
        have e2 := natsOf_some e
        subst e2
        have pl : p.length = st.length := by simpa using dl
        rw [all_posI _ p fun n hn b hb => by cases hb]
        have ep : planB st ts h (.tuple (p.map nD)) = (needsB st ts p && isLet ts h (List.range st.length) (at0 p)) := by
          unfold planB
          rw [show toP (.tuple (p.map nD)) = some p from e]
          show (decide _ && _) = _
          rw [decide_eq_true pl]; rfl
        rw [ep] at q
        refine .inr ⟨rfl, fRun_inv (fun k s => ∃ S4 S5, s = ⟨[.v (.tuple (st.map nT)), .v (nT ts), .v (nD h), .v (.tuple (p.map nD)), S4, S5, .no, .no, .no], hd⟩ ∧ (((List.range st.length).drop k).all fun i => (nds st i).all fun x => decide (at0 p x + at0 ts x ≤ at0 p i)) = needsB st ts p) ?_ ?_ ⟨.no, .no, rfl, rfl⟩⟩
        · rintro k d s N hd' ⟨S4, S5, rfl, er⟩ hN
          obtain ⟨hk, rfl⟩ := enum_st hd'
          rw [drop_all _ _ hk, gt_flip _ (fun x => at0 p x + at0 ts x) (fun _ => at0 p k)] at er
          have nl := v.nds_len k
          simp [nT]
          refine ⟨_, _, ⟨rfl, rfl⟩, _, _, rfl, rfl, _, .inr rfl, by simp only [sizeLine, List.length_map]; omega, cRun_of _ (fun x => .bool (decide (at0 p k < at0 p x + at0 ts x))) _ (fun x hx Y y => ?_) _ _ ?_⟩
          · have xl := v.nds_lt hx
            simp [ix_nT (l := p) (a := x) (by omega), ix_nT (l := ts) (a := x) (by omega), ix_nT (l := p) (a := k) (by omega), add_nD, gt_nDD]
            exact y
          · simp only [List.nil_append, anyD_map]
            refine ⟨_, rfl, ?_⟩
            cases c : (nds st k).any fun x => decide (at0 p k < at0 p x + at0 ts x) with
            | true =>
              rw [c] at er
              have er : false = needsB st ts p := er
              rw [← er] at q
              simpa using q
            | false =>
              rw [c] at er
              simp
              exact hN _ ⟨_, _, rfl, er⟩
        · rintro s ⟨S4, S5, rfl, er⟩
          rw [enum_len, List.drop_eq_nil_of_le (by simp)] at er
          have er : true = needsB st ts p := er
          rw [← er, Bool.true_and, ← let_plan ts p h st.length pl] at q
          simp
          refine fRun_inv (fun k s => ∃ S4 S5 S7 S8, s = ⟨[.v (.tuple (st.map nT)), .v (nT ts), .v (nD h), .v (.tuple (p.map nD)), S4, S5, .no, S7, S8], hd⟩ ∧ ((p.drop k).all fun m => decide (cnt ts (List.range st.length) (at0 p) m ≤ h)) = p.all fun m => decide (cnt ts (List.range st.length) (at0 p) m ≤ h)) ?_ ?_ ⟨S4, S5, .no, .no, rfl, rfl⟩
          · rintro k d s N hd' ⟨S4, S5, S7, S8, rfl, er⟩ hN
            have hk : k < p.length := by simpa using (List.getElem?_eq_some_iff.mp hd').1
            have ed : d = nD p[k] := by
              rw [List.getElem?_map, List.getElem?_eq_getElem hk] at hd'
              exact (Option.some.inj hd').symm
            subst ed
            rw [List.drop_eq_getElem_cons hk, List.all_cons] at er
            generalize p[k] = m at er ⊢
            simp [nT]
            refine ⟨by omega, ?_⟩
            rw [rng_nat]
            refine ⟨by simp only [sizeLine, List.length_map, List.length_range]; omega, cRun_if _ (works ts (at0 p) m) nD _ (fun x hx Y M y n => ?_) _ _ ?_⟩
            · have hx := List.mem_range.mp hx
              simp [ix_nT (l := p) (a := x) (by omega), ix_nT (l := ts) (a := x) (by omega), le_nDD, lt_nDD, add_nD]
              unfold works at y n
              by_cases c1 : at0 p x ≤ m
              · by_cases c2 : m < at0 p x + at0 ts x
                · simp [c1, c2] at y ⊢
                  exact .inr (.inr y)
                · simp [c1, c2] at n ⊢
                  exact .inr ⟨by omega, n⟩
              · simp [c1] at n ⊢
                exact ⟨by omega, n⟩
            · have gw : gtD (.int (((List.range st.length).filter (works ts (at0 p) m)).length : Int)) (nD h) = some (.bool (decide (h < cnt ts (List.range st.length) (at0 p) m))) := gt_nDD _ _
              simp
              refine ⟨_, gw, ?_⟩
              by_cases c : cnt ts (List.range st.length) (at0 p) m ≤ h
              · rw [decide_eq_true c, Bool.true_and] at er
                exact .inl ⟨by rw [decide_eq_false (by omega)], hN _ ⟨_, _, _, _, rfl, er⟩⟩
              · rw [decide_eq_false c, Bool.false_and] at er
                rw [← er] at q
                exact .inr ⟨by rw [decide_eq_true (by omega)], q⟩
          · rintro s ⟨S4, S5, S7, S8, rfl, er⟩
            rw [List.length_map, List.drop_length] at er
            have er : true = p.all fun m => decide (cnt ts (List.range st.length) (at0 p) m ≤ h) := er
            rw [← er] at q
            simpa using q
  · rw [plan_no c] at q
    cases d with
    | tuple ds =>
      have : ds.length ≠ st.length := fun e => c ⟨ds, rfl, e⟩
      simp [stD]
      exact .inr ⟨by omega, q⟩
    | _ => simpa [PyData.isTuple] using q
def S_is_plan : FSpec := fun avs hd Q E => ∃ st ts h d, avs = [.d (stD st), .d (nT ts), .d (nD h), .d d] ∧ Ok st ∧ ts.length = st.length ∧ (∀ x ∈ ts, x ≤ 100) ∧ 1 ≤ h ∧ h ≤ 4 ∧ Fit d ∧ Q (.bool (planB st ts h d)) hd
theorem rd_is_plan (avs hd Q E) (h : S_is_plan avs hd Q E) : t_is_plan S_check_hands S_is_plan_for (fnEnds false Q) ⟨initG ["stages", "times", "hands", "thing"] avs, hd⟩ := by
  obtain ⟨st, ts, h, d, rfl, v, ht, hx, h1, h4, ft, q⟩ := h
  simp [t_is_plan, S_check_hands, S_is_plan_for, and_assoc]
  exact ⟨st, rfl, ts, rfl, h, rfl, v, ht, hx, h1, h4, st, rfl, ts, rfl, h, rfl, v, ht, ft, q⟩
/-! ### the least time -/
def pairD (e : Nat) (p : List Nat) : PyData := .tuple [nD e, nT p]
def endO (st : List (List Nat)) (ts : List Nat) (h : Nat) (o : List Nat) : Nat := endL ts (planL st ts h o)
/-- the least of all greatest ends -/
structure Least (st : List (List Nat)) (ts : List Nat) (h e : Nat) : Prop where
  some : ∃ o, Topo st o ∧ endO st ts h o = e
  least : ∀ o, Topo st o → e ≤ endO st ts h o
theorem Least.one {st : List (List Nat)} {ts : List Nat} {h e e' : Nat} (l : Least st ts h e) (l' : Least st ts h e') : e = e' := by
  obtain ⟨o, t, rfl⟩ := l.some
  obtain ⟨o', t', rfl⟩ := l'.some
  exact Nat.le_antisymm (l.least _ t') (l'.least _ t)
theorem alike_pair (e e' : Nat) (p p' : List Nat) : PySem.W.alike (pairD e p) (pairD e' p') = true := by
  have h := alike_nT p p'
  have h0 := alike_nD e e'
  simp only [pairD, PySem.W.alike, PySem.W.alikeAll, h, h0]
  rfl
section
variable {α : Type} (enc : α → PyData) (key : α → Nat)
theorem min_fold (h1 : ∀ a b, PySem.W.dataLt (enc a) (enc b) = true → key a ≤ key b) (h2 : ∀ a b, PySem.W.dataLt (enc a) (enc b) = false → key b ≤ key a) : ∀ (l : List α) (x : α), ∃ m ∈ x :: l, PySem.W.minD (enc x) (l.map enc) = enc m ∧ ∀ y ∈ x :: l, key m ≤ key y := fun l => by
  unfold PySem.W.minD
  induction l with
  | nil => exact fun x => ⟨x, by simp, rfl, by simp⟩
  | cons y l ih =>
    intro x
    rw [List.map_cons, List.foldl_cons]
    cases c : PySem.W.dataLt (enc y) (enc x) with
    | true =>
      obtain ⟨m, q1, q2, q3⟩ := ih y
      refine ⟨m, List.mem_cons_of_mem _ q1, by rw [if_pos rfl]; exact q2, fun z hz => ?_⟩
      rcases List.mem_cons.mp hz with r | r
      · rw [r]; exact Nat.le_trans (q3 y List.mem_cons_self) (h1 _ _ c)
      · exact q3 z r
    | false =>
      obtain ⟨m, q1, q2, q3⟩ := ih x
      refine ⟨m, ?_, by rw [if_neg Bool.false_ne_true]; exact q2, fun z hz => ?_⟩
      · rcases List.mem_cons.mp q1 with r | r
        · rw [r]; exact List.mem_cons_self
        · exact List.mem_cons_of_mem _ (List.mem_cons_of_mem _ r)
      · rcases List.mem_cons.mp hz with r | r
        · rw [r]; exact q3 x List.mem_cons_self
        · rcases List.mem_cons.mp r with r | r
          · rw [r]; exact Nat.le_trans (q3 x List.mem_cons_self) (h2 _ _ c)
          · exact q3 z (List.mem_cons_of_mem _ r)
theorem okMin_enc {l : List α} (ne : l ≠ []) (h1 : ∀ a ∈ l, (enc a).plain = true) (h2 : ∀ a ∈ l, (enc a).depth ≤ 60) (h3 : ∀ a ∈ l, ∀ b ∈ l, PySem.W.alike (enc a) (enc b) = true) (h4 : ∀ a ∈ l, isNone (enc a) = false) : okMin (l.map enc) = true := by
  cases l with
  | nil => exact absurd rfl ne
  | cons x l =>
    have k1 : PyData.plainAll ((x :: l).map enc) = true := plainAll_of fun d h => by
      obtain ⟨a, ha, rfl⟩ := List.mem_map.mp h
      exact h1 a ha
    have k2 : PyData.depthAll ((x :: l).map enc) ≤ 60 := depthAll_le fun d h => by
      obtain ⟨a, ha, rfl⟩ := List.mem_map.mp h
      exact h2 a ha
    have k3 : ((x :: l).map enc).all (fun a => ((x :: l).map enc).all fun b => PySem.W.alike a b) = true := List.all_eq_true.mpr fun a ha => List.all_eq_true.mpr fun b hb => by
      obtain ⟨m, hm, rfl⟩ := List.mem_map.mp ha
      obtain ⟨n, hn, rfl⟩ := List.mem_map.mp hb
      exact h3 m hm n hn
    have k4 : ((x :: l).map enc).all (fun a => !(isNone a)) = true := List.all_eq_true.mpr fun a ha => by
      obtain ⟨m, hm, rfl⟩ := List.mem_map.mp ha
      rw [h4 m hm]; rfl
    show (PyData.plainAll ((x :: l).map enc) && ((x :: l).map enc).all (fun a => ((x :: l).map enc).all fun b => PySem.W.alike a b) && ((x :: l).map enc).all (fun a => !(isNone a)) && decide (PyData.depthAll ((x :: l).map enc) ≤ 60)) = true
    rw [k1, k3, k4, decide_eq_true k2]
    rfl
theorem minOf_enc (h1 : ∀ a b, PySem.W.dataLt (enc a) (enc b) = true → key a ≤ key b) (h2 : ∀ a b, PySem.W.dataLt (enc a) (enc b) = false → key b ≤ key a) {l : List α} (ne : l ≠ []) (ok : okMin (l.map enc) = true) : ∃ m ∈ l, minOfD [.list (l.map enc)] = some (enc m) ∧ ∀ y ∈ l, key m ≤ key y := by
  cases l with
  | nil => exact absurd rfl ne
  | cons x l =>
    obtain ⟨m, q1, q2, q3⟩ := min_fold enc key h1 h2 l x
    refine ⟨m, q1, ?_, q3⟩
    unfold minOfD
    rw [List.map_cons] at ok ⊢
    simp only [ok, if_true, q2]
end
theorem minOf_nDs {l : List Nat} (ne : l ≠ []) : ∃ m ∈ l, minOfD [.list (l.map nD)] = some (nD m) ∧ ∀ y ∈ l, m ≤ y :=
  minOf_enc nD (fun n => n) (fun a b h => by simp [nD, PySem.W.dataLt_int] at h; omega) (fun a b h => by simp [nD, PySem.W.dataLt_int] at h; omega) ne (okMin_nD ne)
theorem lt_pair (e e' : Nat) (p p' : List Nat) : PySem.W.dataLt (pairD e p) (pairD e' p') = if e = e' then (if PyData.eqv (nT p) (nT p') = true then false else PySem.W.dataLt (nT p) (nT p')) else decide (e < e') := by
  unfold pairD
  rw [PySem.W.dataLt_pair (alike_nD e e') (alike_nT p p')]
  have h : PyData.eqv (nD e) (nD e') = decide (e = e') := by
    show PyData.eqv (.int (e : Int)) (.int (e' : Int)) = _
    rw [eqv_int]
    exact decide_eq_decide.mpr (by omega)
  rw [h]
  by_cases c : e = e'
  · rw [decide_eq_true c, if_pos rfl, if_pos c]
  · rw [decide_eq_false c, if_neg Bool.false_ne_true, if_neg c, nD, nD, PySem.W.dataLt_int]
    exact decide_eq_decide.mpr (by omega)
theorem minOf_pairs {l : List (Nat × List Nat)} (ne : l ≠ []) : ∃ m ∈ l, minOfD [.list (l.map fun q => pairD q.1 q.2)] = some (pairD m.1 m.2) ∧ ∀ y ∈ l, m.1 ≤ y.1 := by
  refine minOf_enc (fun q : Nat × List Nat => pairD q.1 q.2) (fun q => q.1) (fun a b h => ?_) (fun a b h => ?_) ne (okMin_enc _ ne (fun a _ => ?_) (fun a _ => ?_) (fun a _ b _ => alike_pair _ _ _ _) fun a _ => rfl)
  · rw [lt_pair] at h
    by_cases c : a.1 = b.1
    · omega
    · rw [if_neg c] at h; simp at h; omega
  · rw [lt_pair] at h
    by_cases c : a.1 = b.1
    · omega
    · rw [if_neg c] at h; simp at h; omega
  · simp [pairD, nT, nD, PyData.plain, PyData.plainAll]
  · have := depthAll_nD a.2
    simp [pairD, nT, nD, PyData.depth, PyData.depthAll]
def S_raw_least_time : FSpec := fun avs hd Q E => ∃ st ts h, avs = [.d (stD st), .d (nT ts), .d (nD h)] ∧ Ok st ∧ ts.length = st.length ∧ st.length ≤ 6 ∧ 1 ≤ h ∧ ∀ o, Topo st o → Least st ts h (endO st ts h o) → Q (pairD (endO st ts h o) (planL st ts h o)) hd
theorem planL_len (st : List (List Nat)) (ts : List Nat) (h : Nat) (o : List Nat) : (planL st ts h o).length = st.length := by simp [planL]
theorem keep_perms {st : List (List Nat)} (v : Ok st) {o : List Nat} : o ∈ (permsOn st.length st.length).filter (keepsB st) ↔ Topo st o := by
  rw [List.mem_filter, perms_all]
  exact ⟨fun ⟨p, h⟩ => (keeps_iff v p).mp h, fun t => ⟨t.perm, (keeps_iff v t.perm).mpr t⟩⟩
theorem rd_raw_least_time (avs hd Q E) (h : S_raw_least_time avs hd Q E) : t_raw_least_time S_all_orders S_keeps_needs S_raw_in_turn S_end_of (fnEnds false Q) ⟨initG ["stages", "times", "hands", "some", "order", "plan"] avs, hd⟩ := by
  obtain ⟨st, ts, h, rfl, v, ht, hn, h1, q⟩ := h
  have n1 := v.n1
  have h2 := v.n2
  have pl := perms_len hn st.length hn
  have pw : 6 ^ st.length ≤ 6 ^ 6 := Nat.pow_le_pow_right (by omega) hn
  have p6 : 6 ^ 6 = 46656 := rfl
  simp only [t_raw_least_time]
  simp [stD, S_all_orders, and_assoc]
  refine ⟨by omega, st.length, rfl, hn, ?_⟩
  refine fRun_inv (fun k s => ∃ S4 S5, s = ⟨[.v (.tuple (st.map nT)), .v (nT ts), .v (nD h), .m (.list ((((permsOn st.length st.length).take k).filter (keepsB st)).map fun o => pairD (endO st ts h o) (planL st ts h o))), S4, S5], hd⟩) ?_ ?_ ⟨.no, .no, rfl⟩
  · rintro k d s N hd' ⟨S4, S5, rfl⟩ hN
    have hk : k < (permsOn st.length st.length).length := by simpa using (List.getElem?_eq_some_iff.mp hd').1
    have ed : d = nT (permsOn st.length st.length)[k] := by
      rw [List.getElem?_map, List.getElem?_eq_getElem hk] at hd'
      exact (Option.some.inj hd').symm
    subst ed
    have tk := List.take_succ_eq_append_getElem hk
    rw [tk, List.filter_append, List.map_append] at hN
    have pm := perms_all.mp (List.getElem_mem hk)
    have ll : (((permsOn st.length st.length).take k).filter (keepsB st)).length ≤ k := Nat.le_trans (List.length_filter_le _ _) (by simp; omega)
    generalize (permsOn st.length st.length)[k] = o at hN pm ⊢
    generalize ((permsOn st.length st.length).take k).filter (keepsB st) = L at hN ll ⊢
    simp [S_keeps_needs, and_assoc]
    refine ⟨st, rfl, o, rfl, v, pm, ?_⟩
    cases c : keepsB st o with
    | false =>
      have e : List.filter (keepsB st) [o] = [] := by rw [List.filter_cons, if_neg (by rw [c]; simp)]; rfl
      rw [e, List.map_nil, List.append_nil] at hN
      simp
      exact hN _ ⟨_, _, rfl⟩
    | true =>
      have e : List.filter (keepsB st) [o] = [o] := by rw [List.filter_cons, if_pos c]; rfl
      rw [e] at hN
      have t := (keeps_iff v pm).mp c
      simp [S_raw_in_turn, S_end_of, and_assoc]
      have pl2 := planL_len st ts h o
      exact ⟨st, rfl, ts, rfl, o, h, rfl, rfl, v, ht, t, h1, planL st ts h o, rfl, ts, rfl, by omega, by omega, by omega, by simp [sizeLine], by simp only [sizeLine]; omega, hN _ ⟨_, _, rfl⟩⟩
  · rintro s ⟨S4, S5, rfl⟩
    rw [List.length_map, List.take_length]
    have ne : (permsOn st.length st.length).filter (keepsB st) ≠ [] := by
      obtain ⟨o, ho⟩ := List.exists_mem_of_ne_nil _ (tops_ne v)
      exact List.ne_nil_of_mem ((keep_perms v).mpr (tops_all.mp ho))
    generalize hL : (permsOn st.length st.length).filter (keepsB st) = L at ne
    have mem : ∀ o, o ∈ L ↔ Topo st o := fun o => by rw [← hL]; exact keep_perms v
    have e : (L.map fun o => pairD (endO st ts h o) (planL st ts h o)) = (L.map fun o => (endO st ts h o, planL st ts h o)).map fun q => pairD q.1 q.2 := by rw [List.map_map]; rfl
    obtain ⟨m, q1, q2, q3⟩ := minOf_pairs (l := L.map fun o => (endO st ts h o, planL st ts h o)) (by simpa using ne)
    obtain ⟨o, ho, rfl⟩ := List.mem_map.mp q1
    simp
    refine ⟨_, by rw [e]; exact q2, q o ((mem o).mp ho) ⟨⟨o, (mem o).mp ho, rfl⟩, fun o' t' => ?_⟩⟩
    exact q3 _ (List.mem_map.mpr ⟨o', (mem o').mpr t', rfl⟩)
def S_least_time : FSpec := fun avs hd Q E => ∃ st ts h, avs = [.d (stD st), .d (nT ts), .d (nD h)] ∧ Ok st ∧ ts.length = st.length ∧ st.length ≤ 6 ∧ (∀ x ∈ ts, x ≤ 100) ∧ 1 ≤ h ∧ h ≤ 4 ∧ ∀ o, Topo st o → Least st ts h (endO st ts h o) → Q (pairD (endO st ts h o) (planL st ts h o)) hd
theorem rd_least_time (avs hd Q E) (h : S_least_time avs hd Q E) : t_least_time S_check_hands S_raw_least_time (fnEnds false Q) ⟨initG ["stages", "times", "hands"] avs, hd⟩ := by
  obtain ⟨st, ts, h, rfl, v, ht, hn, hx, h1, h4, q⟩ := h
  simp [t_least_time, S_check_hands, S_raw_least_time, and_assoc]
  exact ⟨st, rfl, ts, rfl, h, rfl, v, ht, hx, h1, h4, st, rfl, ts, rfl, h, rfl, v, ht, hn, h1, q⟩
/-! ### is_least_time -/
def leastB (st : List (List Nat)) (ts : List Nat) (h e : Nat) (d : PyData) : Bool := match d with
  | .tuple [a, b] => sameI a e && (planB st ts h b && (match toP b with | none => false | some p => decide (endL ts p = e)))
  | _ => false
structure Fit2 (d : PyData) : Prop where
  pair : ∀ a b, d = .tuple [a, b] → Fit b
theorem planB_some {st : List (List Nat)} {ts : List Nat} {h : Nat} {d : PyData} (c : planB st ts h d = true) : ∃ p, d = nT p ∧ toP d = some p ∧ p.length = st.length := by
  unfold planB at c
  cases e : toP d with
  | none => rw [e] at c; cases c
  | some p =>
    rw [e] at c
    cases d with
    | tuple ds =>
      have e2 := natsOf_some (show natsOf ds = some p from e)
      subst e2
      have c : (decide (p.length = st.length) && _) = true := c
      rw [Bool.and_eq_true, decide_eq_true_eq] at c
      exact ⟨p, rfl, rfl, c.1⟩
    | _ => cases e
theorem within_same (a : PyData) (e : Nat) : within a (e : Int) (e : Int) = sameI a (e : Int) := by
  cases a with
  | int i => exact decide_eq_decide.mpr (by omega)
  | _ => rfl
def S_is_least_time : FSpec := fun avs hd Q E => ∃ st ts h d, avs = [.d (stD st), .d (nT ts), .d (nD h), .d d] ∧ Ok st ∧ ts.length = st.length ∧ st.length ≤ 6 ∧ (∀ x ∈ ts, x ≤ 100) ∧ 1 ≤ h ∧ h ≤ 4 ∧ Fit2 d ∧ ∀ e, Least st ts h e → Q (.bool (leastB st ts h e d)) hd
theorem rd_is_least_time (avs hd Q E) (h : S_is_least_time avs hd Q E) : t_is_least_time S_is_within S_is_sized S_check_hands S_is_plan_for S_end_of S_raw_least_time (fnEnds false Q) ⟨initG ["stages", "times", "hands", "thing", "due"] avs, hd⟩ := by
  obtain ⟨st, ts, h, d, rfl, v, ht, hn, hx, h1, h4, ft, q⟩ := h
  have n1 := v.n1
  simp [t_is_least_time, S_check_hands, S_raw_least_time, S_is_sized, and_assoc]
  refine ⟨st, rfl, ts, rfl, h, rfl, v, ht, hx, h1, h4, st, rfl, ts, rfl, h, rfl, v, ht, hn, h1, fun o t l => ?_⟩
  have q := q _ l
  generalize endO st ts h o = e at q l ⊢
  have i0 : ixD (pairD e (planL st ts h o)) (.int 0) = some (nD e) := ixD_list (l := [nD e, nT (planL st ts h o)]) (k := 0) (by simp)
  refine ⟨_, i0, ?_⟩
  by_cases c : ∃ ds, d = .tuple ds ∧ ds.length = 2
  · obtain ⟨ds, rfl, dl⟩ := c
    obtain ⟨a, b, rfl⟩ : ∃ a b, ds = [a, b] := by
      match ds, dl with
      | [a, b], _ => exact ⟨a, b, rfl⟩
    have j0 : ixD (.tuple [a, b]) (.int 0) = some a := ixD_tuple (l := [a, b]) (k := 0) (by simp)
    have j1 : ixD (.tuple [a, b]) (.int 1) = some b := ixD_tuple (l := [a, b]) (k := 1) (by simp)
    have e2 : sized (.tuple [a, b]) 2 2 = true := rfl
    rw [if_pos e2]
    simp [j0, j1, S_is_within, S_is_plan_for, S_end_of, and_assoc]
    refine ⟨(e : Int), rfl, (e : Int), rfl, ?_⟩
    have q : Q (.bool (sameI a (e : Int) && (planB st ts h b && (match toP b with | none => false | some p => decide (endL ts p = e))))) hd := q
    rw [within_same]
    cases c1 : sameI a (e : Int) with
    | false =>
      rw [c1] at q
      exact .inl ⟨rfl, q⟩
    | true =>
      rw [c1] at q
      refine .inr ⟨rfl, st, rfl, ts, rfl, h, rfl, v, ht, ft.pair a b rfl, ?_⟩
      cases c2 : planB st ts h b with
      | false =>
        rw [c2] at q
        simpa using q
      | true =>
        rw [c2] at q
        obtain ⟨p, rfl, e3, pl⟩ := planB_some c2
        rw [e3] at q
        rw [if_pos rfl]
        exact ⟨p, rfl, ts, rfl, by omega, by omega, by omega, _, eq_nD _ _, q⟩
  · have e2 : sized d 2 2 = false := not_sized (n := 2) c
    rw [e2]
    have e4 : leastB st ts h e d = false := by
      clear q ft e2
      unfold leastB
      split
      · exact absurd ⟨_, rfl, rfl⟩ c
      · rfl
    rw [e4] at q
    simpa using q
end Lw
end
section
set_option Elab.async false
set_option linter.all false
set_option maxRecDepth 100000
set_option maxHeartbeats 4000000
open PySem PySem.Spec PyProof.Rows L2 PD
namespace Lw
section
variable {st : List (List Nat)} {ts : List Nat} {h : Nat}
theorem at0_plan {o : List Nat} {i : Nat} (hi : i < st.length) : at0 (planL st ts h o) i = planF st ts h o i := by
  unfold at0 planL
  simp [List.getD_eq_getElem?_getD, hi]
theorem works_eq {f g : Nat → Nat} {i : Nat} (e : f i = g i) (m : Nat) : works ts f m i = works ts g m i := by unfold works; rw [e]
theorem cnt_perm {o p : List Nat} (pm : o.Perm p) {f g : Nat → Nat} (e : ∀ i ∈ o, f i = g i) (m : Nat) : cnt ts o f m = cnt ts p g m := by
  unfold cnt
  rw [List.filter_congr fun x hx => works_eq (ts := ts) (e x hx) m]
  exact (pm.filter _).length_eq
theorem Good.to {o p : List Nat} {f g : Nat → Nat} (gd : Good st ts h o f) (pm : o.Perm p) (e : ∀ i ∈ o, f i = g i) : Good st ts h p g := by
  refine ⟨pm.nodup_iff.mp gd.nd, fun i hi x hx => ?_, fun i hi => ?_⟩
  · have io := pm.mem_iff.mpr hi
    obtain ⟨h1, h2⟩ := gd.need i io x hx
    exact ⟨pm.mem_iff.mp h1, by rw [← e x h1, ← e i io]; exact h2⟩
  · have io := pm.mem_iff.mpr hi
    rw [← e i io, ← cnt_perm pm e]
    exact gd.few i io
theorem planB_good (v : Ok st) (p : List Nat) : planB st ts h (nT p) = true ↔ p.length = st.length ∧ Good st ts h (List.range st.length) (at0 p) := by
  have e : planB st ts h (nT p) = (decide (p.length = st.length) && (needsB st ts p && isLet ts h (List.range st.length) (at0 p))) := by
    unfold planB
    rw [show toP (nT p) = some p from natsOf_nD p]
  rw [e, Bool.and_eq_true, Bool.and_eq_true, decide_eq_true_eq]
  constructor
  · rintro ⟨h1, h2, h3⟩
    refine ⟨h1, List.nodup_range, fun i hi x hx => ?_, fun i hi => ?_⟩
    · have := List.all_eq_true.mp (List.all_eq_true.mp h2 i hi) x hx
      exact ⟨List.mem_range.mpr (v.nds_lt hx), by simpa using this⟩
    · simpa using List.all_eq_true.mp h3 i hi
  · rintro ⟨h1, g⟩
    refine ⟨h1, List.all_eq_true.mpr fun i hi => List.all_eq_true.mpr fun x hx => ?_, List.all_eq_true.mpr fun i hi => ?_⟩
    · simpa using (g.need i hi x hx).2
    · simpa using g.few i hi
theorem Topo.goodL (h1 : 1 ≤ h) {o : List Nat} (t : Topo st o) : Good st ts h (List.range st.length) (planF st ts h o) := (t.good (ts := ts) h1).to t.perm fun _ _ => rfl
theorem plan_ok (v : Ok st) (h1 : 1 ≤ h) {o : List Nat} (t : Topo st o) : planB st ts h (nT (planL st ts h o)) = true :=
  (planB_good v _).mpr ⟨planL_len _ _ _ _, (t.goodL h1).to (List.Perm.refl _) fun i hi => (at0_plan (List.mem_range.mp hi)).symm⟩
/-- begins are small -/
theorem run_small (h1 : 1 ≤ h) (hx : ∀ x ∈ ts, x ≤ 100) : ∀ (l o : List Nat) (f : Nat → Nat), Good st ts h o f → (o ++ l).Nodup → (∀ p i s, o ++ l = p ++ i :: s → ∀ x ∈ nds st i, x ∈ p) → (∀ x ∈ o, f x + at0 ts x ≤ 100 * o.length) → ∀ x ∈ o ++ l, run st ts h l o f x + at0 ts x ≤ 100 * (o ++ l).length
  | [], o, f, _, _, _, hb => by simpa [run] using hb
  | i :: l, o, f, g, nd, need, hb => by
    have hi : i ∉ o := fun z => (List.nodup_append.mp nd).2.2 i z i List.mem_cons_self rfl
    have hn := need o i l rfl
    obtain ⟨p1, p2, p3⟩ := pick_ok (st := st) g.few h1 hi
    have g2 := g.snoc hi hn (cand_ge p2) p3
    have a0 : at0 ts i ≤ 100 := by
      unfold at0
      rw [List.getD_eq_getElem?_getD]
      cases c : ts[i]? with
      | none => exact Nat.zero_le _
      | some z => exact hx z (List.mem_of_getElem? c)
    have pk : pick st ts h o f i ≤ 100 * o.length := by
      rcases List.mem_cons.mp p2 with q | q
      · rw [q]
        rcases mx_in ((nds st i).map fun x => f x + at0 ts x) 0 with r | r
        · unfold beg; rw [r]; exact Nat.zero_le _
        · obtain ⟨x, hx2, e⟩ := List.mem_map.mp r
          unfold beg; rw [← e]; exact hb x (hn x hx2)
      · obtain ⟨x, hx2, e⟩ := List.mem_map.mp (List.mem_filter.mp q).1
        rw [← e]; exact hb x hx2
    have := run_small h1 hx l (o ++ [i]) _ g2 (by simpa using nd) (by simpa using need) (fun x hx2 => by
      rw [List.length_append, List.length_singleton]
      rcases List.mem_append.mp hx2 with z | z
      · have u : upf f i (pick st ts h o f i) x = f x := by unfold upf; rw [if_neg fun e => hi (by rw [← e]; exact z)]
        rw [u]
        have := hb x z
        omega
      · have z := List.mem_singleton.mp z
        subst z
        have u : upf f x (pick st ts h o f x) x = pick st ts h o f x := by unfold upf; rw [if_pos rfl]
        rw [u]
        omega)
    rw [List.append_assoc] at this
    exact this
theorem plan_small (v : Ok st) (h1 : 1 ≤ h) (hx : ∀ x ∈ ts, x ≤ 100) {o : List Nat} (t : Topo st o) : ∀ x ∈ planL st ts h o, x ≤ 1000 := by
  intro x hx2
  obtain ⟨i, hi, rfl⟩ := List.mem_map.mp hx2
  have := run_small (st := st) (ts := ts) h1 hx o [] (fun _ => 0) ⟨List.nodup_nil, (fun _ h => nomatch h), (fun _ h => nomatch h)⟩ (by rw [List.nil_append]; exact t.nd) (by simpa using t.need) (fun _ h => nomatch h) i (by simpa using t.mem.mpr (List.mem_range.mp hi))
  have ol : o.length = st.length := by rw [t.perm.length_eq]; simp
  have h2 := v.n2
  rw [List.nil_append] at this
  have : planF st ts h o i + at0 ts i ≤ 100 * o.length := this
  omega
/-! ### ends -/
theorem gr_mx (l : List Nat) : gr l = mx 0 l := by
  cases l with
  | nil => rfl
  | cons x l =>
    show l.foldl max x = l.foldl max (max 0 x)
    rw [Nat.zero_max]
theorem endL_F {p : List Nat} (hl : p.length = ts.length) : endL ts p = endF ts (List.range ts.length) (at0 p) := by
  unfold endL endF
  rw [gr_mx]
  congr 1
  apply List.ext_getElem
  · simp [hl]
  · intro i h1 h2
    have hi : i < ts.length := by simpa using h2
    simp [at0, List.getD_eq_getElem?_getD, hi, hl]
theorem endF_eq {o : List Nat} {f g : Nat → Nat} (e : ∀ i ∈ o, f i = g i) : endF ts o f = endF ts o g := by
  unfold endF
  congr 1
  exact List.map_congr_left fun i hi => by rw [e i hi]
theorem endO_F (ht : ts.length = st.length) (o : List Nat) : endO st ts h o = endF ts (List.range st.length) (planF st ts h o) := by
  unfold endO
  rw [endL_F (by rw [planL_len, ht]), ht]
  exact endF_eq fun i hi => at0_plan (List.mem_range.mp hi)
/-! ### the facts -/
theorem least_ends (v : Ok st) (ht : ts.length = st.length) (h1 : 1 ≤ h) {e : Nat} (l : Least st ts h e) : gr (ends st ts) ≤ e := by
  obtain ⟨o, t, rfl⟩ := l.some
  have ne : ends st ts ≠ [] := fun z => by
    have := ends_len st ts
    rw [z] at this
    have := v.n1
    simp at *
    omega
  have gm := gr_mem ne
  obtain ⟨i, hi, ei⟩ := List.mem_iff_getElem.mp gm
  have hi2 : i < st.length := by rw [ends_len] at hi; exact hi
  have e1 : e_ st ts i = gr (ends st ts) := by
    rw [← ei]
    unfold e_ at0
    simp [List.getD_eq_getElem?_getD, hi]
  rw [← e1, endO_F ht]
  exact Nat.le_trans (e_le_end v t (t.good h1) i hi2) (endF_le (List.mem_range.mpr hi2))
theorem sum_at0 (ht : ts.length = st.length) : ((List.range st.length).map (at0 ts)).sum = ts.sum := by
  congr 1
  apply List.ext_getElem
  · simp [ht]
  · intro i h1 h2
    simp [at0, List.getD_eq_getElem?_getD, h2]
theorem least_area (ht : ts.length = st.length) (h1 : 1 ≤ h) {e : Nat} (l : Least st ts h e) : ts.sum ≤ e * h := by
  obtain ⟨o, t, rfl⟩ := l.some
  rw [endO_F ht, ← sum_at0 ht]
  exact area (t.goodL h1).few
theorem least_of (v : Ok st) (ht : ts.length = st.length) (h1 : 1 ≤ h) {P : Nat → Nat} (g : Good st ts h (List.range st.length) P) {e b : Nat} (l : Least st ts h e) (hb : ∀ i, i < st.length → P i + at0 ts i ≤ b) : e ≤ b := by
  obtain ⟨o, t, hle⟩ := best v h1 g fun i hi => List.mem_range.mpr hi
  have := l.least o t
  rw [endO_F ht] at this
  refine Nat.le_trans this (endF_least fun i hi => ?_)
  have hi := List.mem_range.mp hi
  have := hle i hi
  have := hb i hi
  omega
theorem least_more (v : Ok st) (ht : ts.length = st.length) (h1 : 1 ≤ h) {e e' : Nat} (l : Least st ts h e) (l' : Least st ts (h + 1) e') : e' ≤ e := by
  obtain ⟨o, t, rfl⟩ := l.some
  refine least_of v ht (by omega) ((t.goodL h1).more (Nat.le_succ h)) l' fun i hi => ?_
  rw [endO_F ht]
  exact endF_le (List.mem_range.mpr hi)
theorem least_full (v : Ok st) (ht : ts.length = st.length) (h1 : 1 ≤ h) (hh : st.length ≤ h) {e : Nat} (l : Least st ts h e) : e = gr (ends st ts) := by
  refine Nat.le_antisymm (least_of v ht h1 (early_good v hh) l fun i hi => ?_) (least_ends v ht h1 l)
  have := le_gr (e_mem (ts := ts) hi)
  have e1 := e_eq v ts hi
  have : e_ st ts i - at0 ts i + at0 ts i = e_ st ts i := by omega
  omega
theorem least_any (v : Ok st) (ht : ts.length = st.length) : ∃ e, Least st ts h e := by
  obtain ⟨m, h1, _, h3⟩ := minOf_nDs (l := (tops st).map (endO st ts h)) (by simpa using tops_ne v)
  obtain ⟨o, ho, rfl⟩ := List.mem_map.mp h1
  exact ⟨_, ⟨o, tops_all.mp ho, rfl⟩, fun o' t' => h3 _ (List.mem_map.mpr ⟨o', tops_all.mpr t', rfl⟩)⟩
end
end Lw
end
section
set_option Elab.async false
set_option linter.all false
set_option maxRecDepth 100000
set_option maxHeartbeats 4000000
open PySem PySem.Spec PyProof.Rows L2 PD
namespace Lw
/-! ### bent plans -/
inductive Atom : PyData → Prop
  | none : Atom .none
  | bool (b : Bool) : Atom (.bool b)
  | int (i : Int) : -1 ≤ i → i ≤ 2000 → Atom (.int i)
  | nought : Atom (.str "0")
inductive Bent : PyData → Prop
  | row (ds : List PyData) : ds.length ≤ 100 → (∀ x ∈ ds, Atom x) → Bent (.tuple ds)
  | lst (ds : List PyData) : ds.length ≤ 100 → (∀ x ∈ ds, Atom x) → Bent (.list ds)
  | none : Bent .none
  | dic : Bent (dicD false [])
theorem Atom.flat {d : PyData} (h : Atom d) : FlatS d := by
  cases h with
  | none => exact .none
  | bool b => exact .bool b
  | int i h1 h2 => exact .int i (by omega)
  | nought => exact .str _ (by decide +kernel)
theorem Bent.show {d : PyData} (h : Bent d) : okShow d = true := by
  cases h with
  | row ds h1 h2 => exact okShow_tuple (fun d hd => (h2 d hd).flat) (by omega)
  | lst ds h1 h2 => exact okShow_list (fun d hd => (h2 d hd).flat) (by omega)
  | none => exact okShow_flat .none
  | dic => exact okShow_nodict
theorem Bent.fit {d : PyData} (h : Bent d) : Fit d := by
  cases h with
  | row ds h1 h2 =>
    refine ⟨fun es e => ?_, fun es e i hi => ?_⟩
    · cases e; omega
    · cases e
      cases h2 _ hi
      omega
  | lst ds h1 h2 => exact ⟨(fun es e => nomatch e), (fun es e => nomatch e)⟩
  | none => exact ⟨(fun es e => nomatch e), (fun es e => nomatch e)⟩
  | dic => exact ⟨(fun es e => nomatch e), (fun es e => nomatch e)⟩
theorem atom_nD {n : Nat} (h : n ≤ 2000) : Atom (nD n) := .int _ (by omega) (by omega)
theorem Bent.plan {p : List Nat} (h1 : p.length ≤ 100) (h2 : ∀ x ∈ p, x ≤ 2000) : Bent (nT p) := .row _ (by simpa using h1) fun x hx => by
  obtain ⟨n, hn, rfl⟩ := List.mem_map.mp hx
  exact atom_nD (h2 n hn)
theorem cut_sub (xs : List PyData) (lo hi : Option Int) : (PD.cutD xs lo hi).Sublist xs := (List.take_sublist _ _).trans (List.drop_sublist _ _)
theorem app_tup {l m : List PyData} (h : l.length + m.length ≤ 1000) : addD (.tuple l) (.tuple m) = some (.tuple (l ++ m)) := by
  show (if _ then _ else _) = _
  rw [if_pos (by simp only [sizeLine]; omega)]
def S__law_bent : FSpec := fun avs hd Q E => ∃ p, avs = [.hand, .d (nT p)] ∧ 1 ≤ p.length ∧ p.length ≤ 10 ∧ (∀ x ∈ p, x ≤ 1000) ∧ HandD hd ∧ ∀ d hd', Bent d → HandD hd' → Q d hd'
theorem rd__law_bent (avs hd Q E) (h : S__law_bent avs hd Q E) : t__law_bent S__law_draw S__law_any (fnEnds false Q) ⟨initG ["hand", "plan", "at", "new", "later", "begin"] avs, hd⟩ := by
  obtain ⟨p, rfl, n1, n2, hx, hh, q⟩ := h
  simp only [t__law_bent]
  simp [S__law_draw, nT, and_assoc]
  refine ⟨p.length, rfl, n1, by omega, hh, fun v hd2 hv hh2 => ?_⟩
  simp [ix_nT (l := p) (a := v) hv]
  have pv := hx (at0 p v) (by unfold at0; simp [List.getD_eq_getElem?_getD, hv])
  generalize at0 p v = a at pv ⊢
  refine ⟨_, addD_int _ _, _, addD_int _ _, _, subD_int _ _, _, rfl, _, subD_int _ _, _, rfl, _, addD_int _ _, by simp [sizeLine], _, rfl, by simp, by simp, hh2, fun d hd3 hd4 hh4 => ?_⟩
  have ad : Atom d := by
    simp at hd3
    rcases hd3 with rfl | rfl | rfl | rfl | rfl | rfl | rfl | rfl | rfl
    · exact .int _ (by omega) (by omega)
    · exact .int _ (by split <;> omega) (by split <;> omega)
    · exact .int _ (by omega) (by omega)
    · exact .int _ (by omega) (by omega)
    · exact .int _ (by omega) (by omega)
    · exact .bool _
    · exact .none
    · exact .nought
  clear hd3
  show _ ∧ _
  have pa : ∀ x ∈ p.map nD, Atom x := fun x h => by
    obtain ⟨n, hn, rfl⟩ := List.mem_map.mp h
    exact atom_nD (by have := hx n hn; omega)
  have pl : (p.map nD).length = p.length := List.length_map _
  have cs := fun lo hi => cut_sub (p.map nD) lo hi
  have cl := fun lo hi => (cs lo hi).length_le
  refine ⟨by simp only [sizeLine]; omega, cRun_of _ (fun n => nD (n + 3)) _ (fun x hx2 Y y => ?_) _ _ ?_⟩
  · simp
    exact ⟨_, add_nD x 3, y⟩
  · rw [List.nil_append]
    have l1 := cl none (some (v : Int))
    have l2 := cl (some ((v : Int) + 1)) none
    have l3 := cl (some 1) none
    have s1 := cs none (some (v : Int))
    have s2 := cs (some ((v : Int) + 1)) none
    have s3 := cs (some 1) none
    rw [pl] at l1 l2 l3
    refine ⟨(v : Int), rfl, _, rfl, by simp [sizeLine], _, app_tup (by rw [List.length_singleton]; omega), _, rfl, _, rfl, _, rfl, _, app_tup (by rw [List.length_append, List.length_singleton]; omega), by simp [sizeLine], ?_⟩
    generalize cutD (p.map nD) none (some (v : Int)) = u1 at l1 s1 ⊢
    generalize cutD (p.map nD) (some ((v : Int) + 1)) none = u2 at l2 s2 ⊢
    have r4 : mulD (.list [.tuple (u1 ++ [d] ++ u2)]) (.int 4) = some (.list [.tuple (u1 ++ [d] ++ u2), .tuple (u1 ++ [d] ++ u2), .tuple (u1 ++ [d] ++ u2), .tuple (u1 ++ [d] ++ u2)]) := rfl
    refine ⟨_, r4, _, rfl, _, rfl, by simp [sizeLine], _, app_tup (by rw [pl, List.length_singleton]; omega), _, rfl, by simp [sizeLine], _, rfl, _, rfl, by simp, by simp, hh4, fun z hz hd5 hh5 => q _ _ ?_ hh5⟩
    generalize cutD (p.map nD) (some 1) none = u3 at l3 s3 hz
    have b1 : Bent (.tuple (u1 ++ [d] ++ u2)) := .row _ (by rw [List.length_append, List.length_append, List.length_singleton]; omega) fun x h => by
      rcases List.mem_append.mp h with h | h
      · rcases List.mem_append.mp h with h | h
        · exact pa x (s1.subset h)
        · rw [List.mem_singleton.mp h]; exact ad
      · exact pa x (s2.subset h)
    simp at hz
    rcases hz with rfl | rfl | rfl | rfl | rfl | rfl | rfl | rfl | rfl
    · simpa using b1
    · exact .row _ (by rw [List.length_map]; omega) fun x h => by
        obtain ⟨n, hn, rfl⟩ := List.mem_map.mp h
        exact atom_nD (by have := hx n hn; omega)
    · exact .lst _ (by omega) pa
    · exact .row _ (by omega) fun x h => pa x (s3.subset h)
    · exact .row _ (by rw [List.length_append, pl, List.length_singleton]; omega) fun x h => by
        rcases List.mem_append.mp h with h | h
        · exact pa x h
        · rw [List.mem_singleton.mp h]; exact .int _ (by omega) (by omega)
    · exact .none
    · exact .row _ (by simp) fun x h => nomatch h
    · exact .dic
    · exact .row _ (by rw [List.length_reverse]; omega) fun x h => pa x (List.mem_reverse.mp h)
/-! ### are_plans_right -/
theorem neq_str (x : Str) : neD (.str x) (.str x) = some (.bool false) := by
  unfold neD okEq
  simp [PyData.plain, PyData.depth, PyData.eqv]
theorem okS_nT {n : Nat} (hn : 1 ≤ n) {p : List Nat} (hp : p.length ≤ 1000) : OkS n (nT p) := by
  obtain ⟨m, rfl⟩ : ∃ m, n = m + 1 := ⟨n - 1, by omega⟩
  exact .tup m _ (by simpa using hp) fun d hd => by
    obtain ⟨i, _, rfl⟩ := List.mem_map.mp hd
    exact .int _ _
def S__law_are_plans_right : FSpec := fun avs hd Q E => ∃ st ts h, avs = [.hand, .d (stD st), .d (nT ts), .d (nD h)] ∧ Ok st ∧ ts.length = st.length ∧ (∀ x ∈ ts, x ≤ 100) ∧ 1 ≤ h ∧ h ≤ 4 ∧ HandD hd ∧ ∀ o hd', Topo st o → HandD hd' → Q (nT (planL st ts h o)) hd'
theorem rd__law_are_plans_right (n : Nat) (hn : 1 ≤ n) (avs hd Q E) (h : S__law_are_plans_right avs hd Q E) : t__law_are_plans_right S_is_plan S_in_turn (S_same n) S__law_is_plan S__law_in_turn S__law_drawn_order S__law_bent (fnEnds false Q) ⟨initG ["hand", "some", "times", "hands", "plan", "lap", "order", "thing", "again", "before", "flag"] avs, hd⟩ := by
  obtain ⟨st, ts, h, rfl, v, ht, hx, h1, h4, hh, q⟩ := h
  have n1 := v.n1
  have n2 := v.n2
  simp only [t__law_are_plans_right]
  simp
  have e0 : (rngD 0 3).length = 3 := by rw [rng_nat]; simp
  refine fRun_inv (fun k s => ∃ S4 S5 S6 S7 S9 S10 hd', s = ⟨[.h, .v (stD st), .v (nT ts), .v (nD h), .v S4, S5, S6, S7, .no, S9, S10], hd'⟩ ∧ (0 < k → ∃ o, Topo st o ∧ S4 = nT (planL st ts h o)) ∧ HandD hd') ?_ ?_ ⟨_, .no, .no, .no, .no, .no, hd, rfl, fun z => absurd z (by omega), hh⟩
  · rintro k d s N hd' ⟨S4, S5, S6, S7, S9, S10, hd2, rfl, _, hh2⟩ hN
    simp [S__law_drawn_order, S__law_in_turn, S_in_turn, and_assoc]
    refine ⟨st, rfl, v, hh2, fun o hd3 t hh3 => ⟨st, rfl, ts, rfl, o, h, rfl, rfl, v, ht, t, h1, st, rfl, ts, rfl, o, h, rfl, rfl, v, ht, hx, t, h1, h4, ?_⟩⟩
    have pl := planL_len st ts h o
    have ps := plan_small v h1 hx t
    have bp : Bent (nT (planL st ts h o)) := .plan (by omega) fun x hx => by have := ps x hx; omega
    have ok := plan_ok (ts := ts) v h1 t
    refine .inl ⟨_, rfl, okS_nT hn (by omega), .inr ⟨rfl, st, ts, h, _, rfl, v, ht, bp.fit, ?_⟩⟩
    rw [ok]
    refine .inr ⟨rfl, by simp [sizeLine], by rw [e0]; simp only [sizeLine]; omega, cRun_inv (fun i out hd => out.length = i ∧ (∀ x ∈ out, Bent x) ∧ HandD hd) (fun i d out hd Y M hi ⟨el, eb, hh⟩ y m => ?_) (fun out hd ⟨el, eb, hh⟩ => ?_) ⟨rfl, (fun x h => nomatch h), hh3⟩⟩
    · simp [S__law_bent, and_assoc]
      refine ⟨_, rfl, by omega, by omega, ps, hh, fun z hd4 bz hh4 => y _ _ ⟨by simp [el], fun x hx => ?_, hh4⟩⟩
      rcases List.mem_append.mp hx with q | q
      · exact eb x q
      · rw [List.mem_singleton.mp q]; exact bz
    · rw [e0] at el
      refine ⟨_, app_list (by simp; omega), _, .inl rfl, ?_⟩
      have all : ∀ x ∈ [nT (planL st ts h o)] ++ out, Bent x := fun x hx => by
        rcases List.mem_append.mp hx with q | q
        · rw [List.mem_singleton.mp q]; exact bp
        · exact eb x q
      generalize [nT (planL st ts h o)] ++ out = things at all ⊢
      refine fRun_inv (fun k s => ∃ S7 S9 S10, s = ⟨[.h, .v (stD st), .v (nT ts), .v (nD h), .v (nT (planL st ts h o)), .v d, .v (nT o), S7, .no, S9, S10], hd⟩) ?_ ?_ ⟨S7, S9, S10, rfl⟩
      · rintro j x s N2 hx2 ⟨S7, S9, S10, rfl⟩ hN2
        have bx := all x (List.mem_of_getElem? hx2)
        have er : reprD [x] = some (.str (std x).shown) := by
          show (if okShow x = true then _ else _) = _
          rw [if_pos bx.show]
        simp [er, S__law_is_plan, S_is_plan, and_assoc]
        exact ⟨st, rfl, ts, rfl, h, rfl, v, ht, bx.fit, st, rfl, ts, rfl, h, rfl, v, ht, hx, h1, h4, bx.fit, .inl ⟨_, rfl, .bool _ _, .inr ⟨rfl, _, neq_str _, .inl ⟨rfl, hN2 _ ⟨_, _, _, rfl⟩⟩⟩⟩⟩
      · rintro s ⟨S7, S9, S10, rfl⟩
        simp
        exact hN _ ⟨_, _, _, _, _, _, _, rfl, fun _ => ⟨o, t, rfl⟩, hh⟩
  · rintro s ⟨S4, S5, S6, S7, S9, S10, hd', rfl, tt, hh'⟩
    obtain ⟨o, t, rfl⟩ := tt (by rw [e0]; omega)
    simp
    exact q o hd' t hh'
end Lw
end
section
set_option Elab.async false
set_option linter.all false
set_option maxRecDepth 100000
set_option maxHeartbeats 4000000
open PySem PySem.Spec PyProof.Rows L2 PD
namespace Lw
theorem ix_pair0 (e : Nat) (p : List Nat) : ixD (pairD e p) (.int 0) = some (nD e) := ixD_tuple (l := [nD e, nT p]) (k := 0) (by simp)
theorem ix_pair1 (e : Nat) (p : List Nat) : ixD (pairD e p) (.int 1) = some (nT p) := ixD_tuple (l := [nD e, nT p]) (k := 1) (by simp)
theorem maxOf_nDT {l : List Nat} (ne : l ≠ []) : maxOfD [nT l] = some (nD (gr l)) := by
  cases l with
  | nil => exact absurd rfl ne
  | cons x l => exact maxOf_nD x l
theorem sum_nT (l : List Nat) : sumD [nT l] = some (nD l.sum) := by
  have e : ∀ l : List Nat, intsOf (l.map nD) = some (l.map fun x : Nat => (x : Int)) := fun l => by
    induction l with
    | nil => rfl
    | cons x l ih =>
      rw [List.map_cons, List.map_cons]
      show (intsOf (l.map nD)).map ((x : Int) :: ·) = _
      rw [ih]; rfl
  have s : ∀ l : List Nat, (l.map fun x : Nat => (x : Int)).sum = (l.sum : Int) := fun l => by
    induction l with
    | nil => rfl
    | cons x l ih => rw [List.map_cons, List.sum_cons, List.sum_cons, ih]; omega
  show (intsOf (l.map nD)).map _ = _
  rw [e]
  show some (PyData.int _) = _
  rw [s]; rfl
theorem mul_nD {a b : Nat} (h : b ≤ 1000) : mulD (nD a) (nD b) = some (nD (a * b)) := by
  have := mul_ok (i := (a : Int)) (j := (b : Int)) (by omega) (by omega)
  rw [nD, nD, this]
  simp [nD]
theorem Fit2.mk2 (a : PyData) {b : PyData} (h : Fit b) : Fit2 (.tuple [a, b]) := ⟨fun x y e => by cases e; exact h⟩
theorem Fit2.no {d : PyData} (h : ∀ a b, d ≠ .tuple [a, b]) : Fit2 d := ⟨fun a b e => absurd e (h a b)⟩
def S__law_is_least_right : FSpec := fun avs hd Q E => ∃ st ts h o, avs = [.hand, .d (stD st), .d (nT ts), .d (nD h), .d (nT (planL st ts h o))] ∧ Ok st ∧ ts.length = st.length ∧ st.length ≤ 6 ∧ (∀ x ∈ ts, x ≤ 100) ∧ 1 ≤ h ∧ h ≤ 4 ∧ Topo st o ∧ HandD hd ∧ ∀ hd', HandD hd' → Q (.bool true) hd'
theorem rd__law_is_least_right (n : Nat) (hn : 1 ≤ n) (avs hd Q E) (h : S__law_is_least_right avs hd Q E) : t__law_is_least_right S_ends_of S_least_time S_is_least_time S__law_any (S_same n) S__law_is_plan S__law_in_turn S__law_end S__law_all_orders S__law_bent (fnEnds false Q) ⟨initG ["hand", "some", "times", "hands", "drawn", "least", "order", "heard", "odd", "thing", "lap", "flag"] avs, hd⟩ := by
  obtain ⟨st, ts, h, o, rfl, v, ht, h6, hx, h1, h4, t, hh, q⟩ := h
  have n1 := v.n1
  have n2 := v.n2
  have tl := tops_len h6 st.length h6
  have pw : 6 ^ st.length ≤ 6 ^ 6 := Nat.pow_le_pow_right (by omega) h6
  have p6 : 6 ^ 6 = 46656 := rfl
  have tl : (tops st).length ≤ 46656 := by unfold tops; omega
  have ene : ends st ts ≠ [] := fun z => by
    have := ends_len st ts
    rw [z] at this
    simp at this
    omega
  simp only [t__law_is_least_right]
  refine sq_of (fun s => ∃ e, s = ⟨[.h, .v (stD st), .v (nT ts), .v (nD h), .v (nT (planL st ts h o)), .v (nD e), .no, .no, .no, .no, .no, .no], hd⟩ ∧ Least st ts h e) ?_ fun N hN => ?_
  rotate_left
  · simp [S__law_all_orders, and_assoc]
    refine ⟨st, rfl, v, h6, by simp only [sizeLine]; omega, cRun_of _ (fun o => nD (endO st ts h o)) _ (fun o' ho' Y y => ?_) _ _ ?_⟩
    · have t' := tops_all.mp ho'
      have pl := planL_len st ts h o'
      simp [S__law_in_turn, S__law_end, and_assoc]
      exact ⟨st, rfl, ts, rfl, o', h, rfl, rfl, v, ht, t', h1, planL st ts h o', ts, rfl, rfl, by omega, by omega, by omega, y⟩
    · have e1 : (tops st).map (fun o => nD (endO st ts h o)) = ((tops st).map (endO st ts h)).map nD := by rw [List.map_map]; rfl
      obtain ⟨m, q1, q2, q3⟩ := minOf_nDs (l := (tops st).map (endO st ts h)) (by simpa using tops_ne v)
      rw [List.nil_append, e1]
      refine ⟨_, q2, ?_⟩
      obtain ⟨o1, ho1, rfl⟩ := List.mem_map.mp q1
      exact hN _ ⟨_, rfl, ⟨o1, tops_all.mp ho1, rfl⟩, fun o' t' => q3 _ (List.mem_map.mpr ⟨o', tops_all.mpr t', rfl⟩)⟩
  rintro s ⟨e, rfl, L⟩
  have f1 := least_ends v ht h1 L
  have f2 := least_area ht h1 L
  refine sq_of (fun s => ∃ p2, s = ⟨[.h, .v (stD st), .v (nT ts), .v (nD h), .v (nT (planL st ts h o)), .v (nD e), .no, .v (pairD e p2), .no, .no, .no, .no], hd⟩ ∧ planB st ts h (nT p2) = true ∧ p2.length = st.length ∧ (∀ x ∈ p2, x ≤ 1000) ∧ endL ts p2 = e) ?_ fun N hN => ?_
  rotate_left
  · simp [S_least_time, and_assoc]
    refine ⟨st, rfl, ts, rfl, h, rfl, v, ht, h6, hx, h1, h4, fun o2 t2 L2 => ?_⟩
    have e2 := L2.one L
    exact hN _ ⟨planL st ts h o2, by rw [← e2], plan_ok v h1 t2, planL_len _ _ _ _, plan_small v h1 hx t2, e2⟩
  rintro s ⟨p2, rfl, ok2, pl2, ps2, ee2⟩
  have bp2 : Bent (nT p2) := .plan (by omega) fun x hx => by have := ps2 x hx; omega
  refine sq_of (fun s => s = ⟨[.h, .v (stD st), .v (nT ts), .v (nD h), .v (nT (planL st ts h o)), .v (nD e), .no, .v (pairD e p2), .no, .no, .no, .no], hd⟩) ?_ fun N hN => ?_
  rotate_left
  · simp
    rw [if_pos (show (pairD e p2).isTuple = true from rfl)]
    exact ⟨_, lenD_tuple _, _, neD_int _ _, .inl ⟨rfl, _, ix_pair0 _ _, .inl ⟨_, rfl, .int _ _, .inr ⟨rfl, hN _ rfl⟩⟩⟩⟩
  rintro s rfl
  refine sq_of (fun s => s = ⟨[.h, .v (stD st), .v (nT ts), .v (nD h), .v (nT (planL st ts h o)), .v (nD e), .no, .v (pairD e p2), .no, .no, .no, .no], hd⟩) ?_ fun N hN => ?_
  rotate_left
  · simp
    refine ⟨_, ix_pair1 _ _, st, ts, h, _, rfl, v, ht, bp2.fit, ?_⟩
    rw [ok2]
    refine .inr ⟨rfl, _, ix_pair1 _ _, p2, ts, rfl, by omega, by omega, by omega, _, ne_nD _ _, ?_⟩
    rw [ee2, decide_eq_true rfl]
    exact .inl ⟨rfl, hN _ rfl⟩
  rintro s rfl
  refine sq_of (fun s => s = ⟨[.h, .v (stD st), .v (nT ts), .v (nD h), .v (nT (planL st ts h o)), .v (nD e), .no, .v (pairD e p2), .no, .no, .no, .no], hd⟩) ?_ fun N hN => ?_
  rotate_left
  · simp
    refine ⟨st, ts, rfl, v, ht, hx, _, maxOf_nDT ene, _, lt_nDD _ _, ?_⟩
    rw [decide_eq_false (by omega)]
    refine .inl ⟨rfl, _, mul_nD (by omega), _, sum_nT ts, _, lt_nDD _ _, ?_⟩
    rw [decide_eq_false (by omega)]
    refine .inl ⟨rfl, _, lt_nDD _ 4, ?_⟩
    by_cases c : h < 4
    · rw [decide_eq_true c]
      refine .inr ⟨rfl, _, add_nD h 1, st, ts, h + 1, rfl, v, ht, h6, hx, by omega, by omega, fun o2 t2 L2 => ⟨_, ix_pair0 _ _, _, gt_nDD _ _, ?_⟩⟩
      have := least_more v ht h1 L L2
      rw [decide_eq_false (by omega)]
      exact .inl ⟨rfl, hN _ rfl⟩
    · rw [decide_eq_false c]
      exact .inl ⟨rfl, hN _ rfl⟩
  rintro s rfl
  refine sq_of (fun s => s = ⟨[.h, .v (stD st), .v (nT ts), .v (nD h), .v (nT (planL st ts h o)), .v (nD e), .no, .v (pairD e p2), .no, .no, .no, .no], hd⟩) ?_ fun N hN => ?_
  rotate_left
  · have ls : lenD [stD st] = some (nD st.length) := by
      show some (PyData.int _) = _
      rw [List.length_map]; rfl
    simp
    refine ⟨_, ls, _, le_nDD _ _, ?_⟩
    by_cases c : st.length ≤ h
    · rw [decide_eq_true c]
      refine .inr ⟨rfl, st, ts, rfl, v, ht, hx, _, maxOf_nDT ene, _, ne_nD _ _, ?_⟩
      rw [decide_eq_true (least_full v ht h1 c L)]
      exact .inl ⟨rfl, hN _ rfl⟩
    · rw [decide_eq_false c]
      exact .inl ⟨rfl, hN _ rfl⟩
  rintro s rfl
  have e9 : e ≤ 2000 := by
    rw [← ee2, endL_F (by omega)]
    refine endF_least fun i hi => ?_
    have hi := List.mem_range.mp hi
    have a1 := ps2 (at0 p2 i) (by unfold at0; rw [List.getD_eq_getElem?_getD, List.getElem?_eq_getElem (by omega)]; exact List.getElem_mem _)
    have a2 := hx (at0 ts i) (by unfold at0; rw [List.getD_eq_getElem?_getD, List.getElem?_eq_getElem hi]; exact List.getElem_mem _)
    omega
  have dp := plan_small (ts := ts) v h1 hx t
  have dl := planL_len st ts h o
  have bd : Bent (nT (planL st ts h o)) := .plan (by omega) fun x hx => by have := dp x hx; omega
  refine sq_of (fun s => ∃ l hd', s = ⟨[.h, .v (stD st), .v (nT ts), .v (nD h), .v (nT (planL st ts h o)), .v (nD e), .no, .v (pairD e p2), .v (.list l), .no, .no, .no], hd'⟩ ∧ l.length = 7 ∧ (∀ d ∈ l, Fit2 d) ∧ HandD hd') ?_ fun N hN => ?_
  rotate_left
  · simp [S__law_end, S__law_bent, ix_pair1, and_assoc]
    refine ⟨_, _, rfl, rfl, by omega, by omega, by omega, by simp [sizeLine], p2, rfl, by omega, by omega, ps2, hh, fun d hd' bd2 hh' => ?_⟩
    refine ⟨by simp [sizeLine], _, add_nD e 1, by simp [sizeLine], _, rfl, by simp [sizeLine], by simp [sizeLine], ?_⟩
    refine hN _ ⟨_, _, rfl, rfl, fun x hx2 => ?_, hh'⟩
    simp at hx2
    rcases hx2 with rfl | rfl | rfl | rfl | rfl | rfl | rfl
    · exact .mk2 _ bp2.fit
    · exact .mk2 _ bd.fit
    · exact .mk2 _ bd.fit
    · exact .mk2 _ bd2.fit
    · exact .mk2 _ bp2.fit
    · exact .no fun a b z => nomatch z
    · exact .no fun a b z => nomatch z
  rintro s ⟨l, hd1, rfl, l7, lf, hh1⟩
  refine sq_of (fun s => ∃ l hd', s = ⟨[.h, .v (stD st), .v (nT ts), .v (nD h), .v (nT (planL st ts h o)), .v (nD e), .no, .v (pairD e p2), .v (.list l), .no, .no, .no], hd'⟩ ∧ 1 ≤ l.length ∧ l.length ≤ 100 ∧ (∀ d ∈ l, Fit2 d) ∧ HandD hd') ?_ fun N hN => ?_
  rotate_left
  · have lg : (nD e) = .int (e : Int) := rfl
    have es : strD [nD e] = some (.str (toString (e : Int))) := by
      show (if ((e : Int)).natAbs.log2 < 1920 then _ else _) = _
      rw [if_pos]
      by_cases z : ((e : Int)).natAbs = 0
      · rw [z]; decide
      · refine (Nat.log2_lt z).mpr (Nat.lt_of_lt_of_le (show ((e : Int)).natAbs < 2 ^ 11 by omega) ?_)
        exact Nat.pow_le_pow_right (by decide) (by decide)
    simp [ix_pair1, es]
    refine ⟨by simp [sizeLine], _, rfl, _, rfl, by simp [sizeLine], _, rfl, by simp [sizeLine], by simp [sizeLine], _, app_list (by simp; omega), hN _ ⟨_, _, rfl, by simp, by simp; omega, fun d hd2 => ?_, hh1⟩⟩
    rcases List.mem_append.mp hd2 with z | z
    · exact lf d z
    · simp at z
      rcases z with rfl | rfl | rfl | rfl | rfl | rfl | rfl | rfl
      · exact .no fun a b z => nomatch z
      · exact .mk2 _ ⟨(fun ds e => nomatch e), (fun ds e => nomatch e)⟩
      · exact .no fun a b z => nomatch z
      · exact .no fun a b z => nomatch z
      · exact .no fun a b z => nomatch z
      · exact .mk2 _ ⟨(fun ds e => nomatch e), (fun ds e => nomatch e)⟩
      · exact .mk2 _ bp2.fit
      · exact .mk2 _ bp2.fit
  clear lf l7
  rintro s ⟨l, hd2, rfl, l1, l2, lf, hh2⟩
  simp
  have e0 : (rngD 0 6).length = 6 := by rw [rng_nat]; simp
  refine ⟨by rw [e0]; simp [sizeLine], cRun_inv (fun i out hd => out.length = i ∧ (∀ x ∈ out, Fit2 x) ∧ HandD hd) (fun i d out hd Y M hi ⟨el, eb, hh⟩ y m => ?_) (fun out hd ⟨el, eb, hh⟩ => ?_) ⟨rfl, (fun x h => nomatch h), hh2⟩⟩
  · simp [S__law_any, and_assoc]
    refine ⟨by omega, by omega, hh, fun z hz hd4 hh4 => y _ _ ⟨by simp [el], fun x hx => ?_, hh4⟩⟩
    rcases List.mem_append.mp hx with q | q
    · exact eb x q
    · rw [List.mem_singleton.mp q]; exact lf z hz
  · rw [e0] at el
    refine ⟨by simp [sizeLine], _, app_list (by simp; omega), _, .inl rfl, ?_⟩
    have all : ∀ x ∈ out ++ [pairD e p2], Fit2 x := fun x hx => by
      rcases List.mem_append.mp hx with q | q
      · exact eb x q
      · rw [List.mem_singleton.mp q]; exact .mk2 _ bp2.fit
    generalize out ++ [pairD e p2] = things at all ⊢
    refine fRun_inv (fun k s => ∃ S9 S11, s = ⟨[.h, .v (stD st), .v (nT ts), .v (nD h), .v (nT (planL st ts h o)), .v (nD e), .no, .v (pairD e p2), .v (.list l), S9, .no, S11], hd⟩) ?_ ?_ ⟨.no, .no, rfl⟩
    · rintro j d s N2 hx2 ⟨S9, S11, rfl⟩ hN2
      have fd := all d (List.mem_of_getElem? hx2)
      have fin : ∀ S9, S_is_least_time [.d (stD st), .d (nT ts), .d (nD h), .d d] hd (fun d1 hd => S_same n [.d d1, .d (.bool (leastB st ts h e d))] hd (fun d1 hd => d1 = PyData.bool false ∧ Q (PyData.bool false) hd ∨ d1 = PyData.bool true ∧ N2 ⟨[.h, .v (stD st), .v (nT ts), .v (nD h), .v (nT (planL st ts h o)), .v (nD e), .no, .v (pairD e p2), .v (.list l), S9, .no, .v (.bool (leastB st ts h e d))], hd⟩) fun _ _ => False) fun _ _ => False := fun S9 => by
        refine ⟨st, ts, h, d, rfl, v, ht, h6, hx, h1, h4, fd, fun e' L' => ?_⟩
        rw [L'.one L]
        exact .inl ⟨_, rfl, .bool _ _, .inr ⟨rfl, hN2 _ ⟨_, _, rfl⟩⟩⟩
      simp
      by_cases c : ∃ a b, d = .tuple [a, b]
      · obtain ⟨a, b, rfl⟩ := c
        have j0 : ixD (.tuple [a, b]) (.int 0) = some a := ixD_tuple (l := [a, b]) (k := 0) (by simp)
        have j1 : ixD (.tuple [a, b]) (.int 1) = some b := ixD_tuple (l := [a, b]) (k := 1) (by simp)
        have lb : leastB st ts h e (.tuple [a, b]) = (sameI a (e : Int) && (planB st ts h b && (match toP b with | none => false | some p => decide (endL ts p = e)))) := rfl
        rw [lb] at fin
        simp [j0, j1]
        refine .inr ⟨a, e, rfl, rfl, ?_⟩
        cases c1 : sameI a (e : Int) with
        | false =>
          rw [c1] at fin
          show (if (false = true) then _ else _)
          rw [if_neg Bool.false_ne_true]
          exact fin _
        | true =>
          rw [c1] at fin
          show (if (true = true) then _ else _)
          rw [if_pos rfl]
          refine ⟨st, ts, h, b, rfl, v, ht, fd.pair a b rfl, rfl, ?_⟩
          cases c2 : planB st ts h b with
          | false =>
            rw [c2] at fin
            show (if (false = true) then _ else _)
            rw [if_neg Bool.false_ne_true]
            exact fin _
          | true =>
            rw [c2] at fin
            obtain ⟨p, rfl, e3, pl⟩ := planB_some c2
            rw [e3] at fin
            show (if (true = true) then _ else _)
            rw [if_pos rfl]
            exact ⟨p, ts, rfl, by omega, by omega, by omega, _, eq_nD _ _, fin _⟩
      · have lb : leastB st ts h e d = false := by
          clear fin fd hx2
          unfold leastB
          split
          · exact absurd ⟨_, _, rfl⟩ c
          · rfl
        rw [lb] at fin
        cases d with
        | tuple ds =>
          have nl : ds.length ≠ 2 := fun z => by
            match ds, z with
            | [a, b], _ => exact c ⟨a, b, rfl⟩
          have nz : ¬ ((ds.length : Int) = 2) := by omega
          simp [nz]
          exact fin _
        | _ => simpa [PyData.isTuple] using fin _
    · rintro s ⟨S9, S11, rfl⟩
      simp
      exact q hd hh
end Lw
end
section
set_option Elab.async false
set_option linter.all false
set_option maxRecDepth 100000
set_option maxHeartbeats 4000000
open PySem PySem.Spec PyProof.Rows L2 PD
namespace Lw
theorem mono_is_integer : MonoF S_is_integer := fun avs hd Q Q' E E' w _ ⟨v0, e, q⟩ => ⟨v0, e, w _ _ q⟩
theorem len_is_integer : ∀ avs hd Q E, S_is_integer avs hd Q E → avs.length = P_is_integer.length := fun _ _ _ _ ⟨_, e, _⟩ => by rw [e]; rfl
theorem ok_is_integer {P : Program} {w : World} {K : PySem.W.Frag} {mg : Str → Option Value} {base : Heap} (T : Txt K mg) : FnG P w K mg base CX0 1 T.f_is_integer T.d_is_integer P_is_integer (spD K false S_is_integer) :=
  fnD (k := 0) T.F_is_integer sc_is_integer len_is_integer fun cdv A outer s H E hr => ⟨_, wk_is_integer T  cdv A outer s H E hr, rd_is_integer⟩
theorem mono_is_within : MonoF S_is_within := fun avs hd Q Q' E E' w _ ⟨v0, v1, v2, e, q⟩ => ⟨v0, v1, v2, e, w _ _ q⟩
theorem len_is_within : ∀ avs hd Q E, S_is_within avs hd Q E → avs.length = P_is_within.length := fun _ _ _ _ ⟨_, _, _, e, _⟩ => by rw [e]; rfl
theorem ok_is_within {P : Program} {w : World} {K : PySem.W.Frag} {mg : Str → Option Value} {base : Heap} (T : Txt K mg) : FnG P w K mg base CX0 2 T.f_is_within T.d_is_within P_is_within (spD K false S_is_within) :=
  fnD (k := 1) T.F_is_within sc_is_within len_is_within fun cdv A outer s H E hr => ⟨_, wk_is_within T mono_is_integer ((ok_is_integer T).mono (by decide)) cdv A outer s H E hr, rd_is_within⟩
theorem mono_is_sized : MonoF S_is_sized := fun avs hd Q Q' E E' w _ ⟨v0, v1, v2, e, q⟩ => ⟨v0, v1, v2, e, w _ _ q⟩
theorem len_is_sized : ∀ avs hd Q E, S_is_sized avs hd Q E → avs.length = P_is_sized.length := fun _ _ _ _ ⟨_, _, _, e, _⟩ => by rw [e]; rfl
theorem ok_is_sized {P : Program} {w : World} {K : PySem.W.Frag} {mg : Str → Option Value} {base : Heap} (T : Txt K mg) : FnG P w K mg base CX0 1 T.f_is_sized T.d_is_sized P_is_sized (spD K false S_is_sized) :=
  fnD (k := 0) T.F_is_sized sc_is_sized len_is_sized fun cdv A outer s H E hr => ⟨_, wk_is_sized T  cdv A outer s H E hr, rd_is_sized⟩
theorem mono_are_rising : MonoF S_are_rising := fun avs hd Q Q' E E' w _ ⟨v0, e, c0, c1, q⟩ => ⟨v0, e, c0, c1, w _ _ q⟩
theorem len_are_rising : ∀ avs hd Q E, S_are_rising avs hd Q E → avs.length = P_are_rising.length := fun _ _ _ _ ⟨_, e, _⟩ => by rw [e]; rfl
theorem ok_are_rising {P : Program} {w : World} {K : PySem.W.Frag} {mg : Str → Option Value} {base : Heap} (T : Txt K mg) : FnG P w K mg base CX0 1 T.f_are_rising T.d_are_rising P_are_rising (spD K false S_are_rising) :=
  fnD (k := 0) T.F_are_rising sc_are_rising len_are_rising fun cdv A outer s H E hr => ⟨_, wk_are_rising T  cdv A outer s H E hr, rd_are_rising⟩
theorem mono_is_lot : MonoF S_is_lot := fun avs hd Q Q' E E' w _ ⟨v0, v1, e, c0, c1, c2, q⟩ => ⟨v0, v1, e, c0, c1, c2, w _ _ q⟩
theorem len_is_lot : ∀ avs hd Q E, S_is_lot avs hd Q E → avs.length = P_is_lot.length := fun _ _ _ _ ⟨_, _, e, _⟩ => by rw [e]; rfl
theorem ok_is_lot {P : Program} {w : World} {K : PySem.W.Frag} {mg : Str → Option Value} {base : Heap} (T : Txt K mg) : FnG P w K mg base CX0 3 T.f_is_lot T.d_is_lot P_is_lot (spD K false S_is_lot) :=
  fnD (k := 2) T.F_is_lot sc_is_lot len_is_lot fun cdv A outer s H E hr => ⟨_, wk_is_lot T mono_is_within ((ok_is_within T).mono (by decide)) mono_are_rising ((ok_are_rising T).mono (by decide)) cdv A outer s H E hr, rd_is_lot⟩
theorem mono_is_order : MonoF S_is_order := fun avs hd Q Q' E E' w _ ⟨v0, v1, e, c0, c1, q⟩ => ⟨v0, v1, e, c0, c1, w _ _ q⟩
theorem len_is_order : ∀ avs hd Q E, S_is_order avs hd Q E → avs.length = P_is_order.length := fun _ _ _ _ ⟨_, _, e, _⟩ => by rw [e]; rfl
theorem ok_is_order {P : Program} {w : World} {K : PySem.W.Frag} {mg : Str → Option Value} {base : Heap} (T : Txt K mg) : FnG P w K mg base CX0 2 T.f_is_order T.d_is_order P_is_order (spD K false S_is_order) :=
  fnD (k := 1) T.F_is_order sc_is_order len_is_order fun cdv A outer s H E hr => ⟨_, wk_is_order T mono_is_integer ((ok_is_integer T).mono (by decide)) mono_is_sized ((ok_is_sized T).mono (by decide)) cdv A outer s H E hr, rd_is_order⟩
theorem mono_all_orders : MonoF S_all_orders := fun avs hd Q Q' E E' w _ ⟨v0, e, c0, q⟩ => ⟨v0, e, c0, w _ _ q⟩
theorem len_all_orders : ∀ avs hd Q E, S_all_orders avs hd Q E → avs.length = P_all_orders.length := fun _ _ _ _ ⟨_, e, _⟩ => by rw [e]; rfl
theorem ok_all_orders {P : Program} {w : World} {K : PySem.W.Frag} {mg : Str → Option Value} {base : Heap} (T : Txt K mg) : FnG P w K mg base CX0 1 T.f_all_orders T.d_all_orders P_all_orders (spD K false S_all_orders) :=
  fnD (k := 0) T.F_all_orders sc_all_orders len_all_orders fun cdv A outer s H E hr => ⟨_, wk_all_orders T  cdv A outer s H E hr, rd_all_orders⟩
theorem mono_are_stages : MonoF S_are_stages := fun avs hd Q Q' E E' w _ ⟨v0, e, c0, q⟩ => ⟨v0, e, c0, w _ _ q⟩
theorem len_are_stages : ∀ avs hd Q E, S_are_stages avs hd Q E → avs.length = P_are_stages.length := fun _ _ _ _ ⟨_, e, _⟩ => by rw [e]; rfl
theorem ok_are_stages {P : Program} {w : World} {K : PySem.W.Frag} {mg : Str → Option Value} {base : Heap} (T : Txt K mg) : FnG P w K mg base CX0 4 T.f_are_stages T.d_are_stages P_are_stages (spD K false S_are_stages) :=
  fnD (k := 3) T.F_are_stages sc_are_stages len_are_stages fun cdv A outer s H E hr => ⟨_, wk_are_stages T mono_is_sized ((ok_is_sized T).mono (by decide)) mono_is_lot ((ok_is_lot T).mono (by decide)) cdv A outer s H E hr, rd_are_stages⟩
theorem mono_check_stages : MonoF S_check_stages := fun avs hd Q Q' E E' w _ ⟨v0, e, c0, q⟩ => ⟨v0, e, c0, w _ _ q⟩
theorem len_check_stages : ∀ avs hd Q E, S_check_stages avs hd Q E → avs.length = P_check_stages.length := fun _ _ _ _ ⟨_, e, _⟩ => by rw [e]; rfl
theorem ok_check_stages {P : Program} {w : World} {K : PySem.W.Frag} {mg : Str → Option Value} {base : Heap} (T : Txt K mg) : FnG P w K mg base CX0 5 T.f_check_stages T.d_check_stages P_check_stages (spD K false S_check_stages) :=
  fnD (k := 4) T.F_check_stages sc_check_stages len_check_stages fun cdv A outer s H E hr => ⟨_, wk_check_stages T mono_are_stages ((ok_are_stages T).mono (by decide)) cdv A outer s H E hr, rd_check_stages⟩
theorem mono_least_order : MonoF S_least_order := fun avs hd Q Q' E E' w _ ⟨v0, e, c0, q⟩ => ⟨v0, e, c0, w _ _ q⟩
theorem len_least_order : ∀ avs hd Q E, S_least_order avs hd Q E → avs.length = P_least_order.length := fun _ _ _ _ ⟨_, e, _⟩ => by rw [e]; rfl
theorem ok_least_order {P : Program} {w : World} {K : PySem.W.Frag} {mg : Str → Option Value} {base : Heap} (T : Txt K mg) : FnG P w K mg base CX0 1 T.f_least_order T.d_least_order P_least_order (spD K false S_least_order) :=
  fnD (k := 0) T.F_least_order sc_least_order len_least_order fun cdv A outer s H E hr => ⟨_, wk_least_order T  cdv A outer s H E hr, rd_least_order⟩
theorem mono_keeps_needs : MonoF S_keeps_needs := fun avs hd Q Q' E E' w _ ⟨v0, v1, e, c0, c1, q⟩ => ⟨v0, v1, e, c0, c1, w _ _ q⟩
theorem len_keeps_needs : ∀ avs hd Q E, S_keeps_needs avs hd Q E → avs.length = P_keeps_needs.length := fun _ _ _ _ ⟨_, _, e, _⟩ => by rw [e]; rfl
theorem ok_keeps_needs {P : Program} {w : World} {K : PySem.W.Frag} {mg : Str → Option Value} {base : Heap} (T : Txt K mg) : FnG P w K mg base CX0 1 T.f_keeps_needs T.d_keeps_needs P_keeps_needs (spD K false S_keeps_needs) :=
  fnD (k := 0) T.F_keeps_needs sc_keeps_needs len_keeps_needs fun cdv A outer s H E hr => ⟨_, wk_keeps_needs T  cdv A outer s H E hr, rd_keeps_needs⟩
theorem mono_check_ringless : MonoF S_check_ringless := fun avs hd Q Q' E E' w _ ⟨v0, e, c0, q⟩ => ⟨v0, e, c0, w _ _ q⟩
theorem len_check_ringless : ∀ avs hd Q E, S_check_ringless avs hd Q E → avs.length = P_check_ringless.length := fun _ _ _ _ ⟨_, e, _⟩ => by rw [e]; rfl
theorem ok_check_ringless {P : Program} {w : World} {K : PySem.W.Frag} {mg : Str → Option Value} {base : Heap} (T : Txt K mg) : FnG P w K mg base CX0 6 T.f_check_ringless T.d_check_ringless P_check_ringless (spD K false S_check_ringless) :=
  fnD (k := 5) T.F_check_ringless sc_check_ringless len_check_ringless fun cdv A outer s H E hr => ⟨_, wk_check_ringless T mono_check_stages ((ok_check_stages T).mono (by decide)) mono_least_order ((ok_least_order T).mono (by decide)) cdv A outer s H E hr, rd_check_ringless⟩
theorem mono_check_times : MonoF S_check_times := fun avs hd Q Q' E E' w _ ⟨v0, v1, e, c0, c1, c2, q⟩ => ⟨v0, v1, e, c0, c1, c2, w _ _ q⟩
theorem len_check_times : ∀ avs hd Q E, S_check_times avs hd Q E → avs.length = P_check_times.length := fun _ _ _ _ ⟨_, _, e, _⟩ => by rw [e]; rfl
theorem ok_check_times {P : Program} {w : World} {K : PySem.W.Frag} {mg : Str → Option Value} {base : Heap} (T : Txt K mg) : FnG P w K mg base CX0 7 T.f_check_times T.d_check_times P_check_times (spD K false S_check_times) :=
  fnD (k := 6) T.F_check_times sc_check_times len_check_times fun cdv A outer s H E hr => ⟨_, wk_check_times T mono_is_within ((ok_is_within T).mono (by decide)) mono_is_sized ((ok_is_sized T).mono (by decide)) mono_check_ringless ((ok_check_ringless T).mono (by decide)) cdv A outer s H E hr, rd_check_times⟩
theorem mono_raw_ends : MonoF S_raw_ends := fun avs hd Q Q' E E' w _ ⟨v0, v1, v2, e, c0, c1, c2, q⟩ => ⟨v0, v1, v2, e, c0, c1, c2, w _ _ q⟩
theorem len_raw_ends : ∀ avs hd Q E, S_raw_ends avs hd Q E → avs.length = P_raw_ends.length := fun _ _ _ _ ⟨_, _, _, e, _⟩ => by rw [e]; rfl
theorem ok_raw_ends {P : Program} {w : World} {K : PySem.W.Frag} {mg : Str → Option Value} {base : Heap} (T : Txt K mg) : FnG P w K mg base CX0 1 T.f_raw_ends T.d_raw_ends P_raw_ends (spD K false S_raw_ends) :=
  fnD (k := 0) T.F_raw_ends sc_raw_ends len_raw_ends fun cdv A outer s H E hr => ⟨_, wk_raw_ends T  cdv A outer s H E hr, rd_raw_ends⟩
theorem mono_ends_of : MonoF S_ends_of := fun avs hd Q Q' E E' w _ ⟨v0, v1, e, c0, c1, c2, q⟩ => ⟨v0, v1, e, c0, c1, c2, w _ _ q⟩
theorem len_ends_of : ∀ avs hd Q E, S_ends_of avs hd Q E → avs.length = P_ends_of.length := fun _ _ _ _ ⟨_, _, e, _⟩ => by rw [e]; rfl
theorem ok_ends_of {P : Program} {w : World} {K : PySem.W.Frag} {mg : Str → Option Value} {base : Heap} (T : Txt K mg) : FnG P w K mg base CX0 8 T.f_ends_of T.d_ends_of P_ends_of (spD K false S_ends_of) :=
  fnD (k := 7) T.F_ends_of sc_ends_of len_ends_of fun cdv A outer s H E hr => ⟨_, wk_ends_of T mono_check_times ((ok_check_times T).mono (by decide)) mono_raw_ends ((ok_raw_ends T).mono (by decide)) cdv A outer s H E hr, rd_ends_of⟩
theorem mono_check_hands : MonoF S_check_hands := fun avs hd Q Q' E E' w _ ⟨v0, v1, v2, e, c0, c1, c2, c3, c4, q⟩ => ⟨v0, v1, v2, e, c0, c1, c2, c3, c4, w _ _ q⟩
theorem len_check_hands : ∀ avs hd Q E, S_check_hands avs hd Q E → avs.length = P_check_hands.length := fun _ _ _ _ ⟨_, _, _, e, _⟩ => by rw [e]; rfl
theorem ok_check_hands {P : Program} {w : World} {K : PySem.W.Frag} {mg : Str → Option Value} {base : Heap} (T : Txt K mg) : FnG P w K mg base CX0 8 T.f_check_hands T.d_check_hands P_check_hands (spD K false S_check_hands) :=
  fnD (k := 7) T.F_check_hands sc_check_hands len_check_hands fun cdv A outer s H E hr => ⟨_, wk_check_hands T mono_is_within ((ok_is_within T).mono (by decide)) mono_check_times ((ok_check_times T).mono (by decide)) cdv A outer s H E hr, rd_check_hands⟩
theorem mono_worked_at : MonoF S_worked_at := fun avs hd Q Q' E E' w _ ⟨v0, v1, v2, v3, e, c0, c1, q⟩ => ⟨v0, v1, v2, v3, e, c0, c1, w _ _ q⟩
theorem len_worked_at : ∀ avs hd Q E, S_worked_at avs hd Q E → avs.length = P_worked_at.length := fun _ _ _ _ ⟨_, _, _, _, e, _⟩ => by rw [e]; rfl
theorem ok_worked_at {P : Program} {w : World} {K : PySem.W.Frag} {mg : Str → Option Value} {base : Heap} (T : Txt K mg) : FnG P w K mg base CX0 1 T.f_worked_at T.d_worked_at P_worked_at (spD K false S_worked_at) :=
  fnD (k := 0) T.F_worked_at sc_worked_at len_worked_at fun cdv A outer s H E hr => ⟨_, wk_worked_at T  cdv A outer s H E hr, rd_worked_at⟩
theorem mono_is_let : MonoF S_is_let := fun avs hd Q Q' E E' w _ ⟨v0, v1, v2, v3, e, c0, c1, q⟩ => ⟨v0, v1, v2, v3, e, c0, c1, w _ _ q⟩
theorem len_is_let : ∀ avs hd Q E, S_is_let avs hd Q E → avs.length = P_is_let.length := fun _ _ _ _ ⟨_, _, _, _, e, _⟩ => by rw [e]; rfl
theorem ok_is_let {P : Program} {w : World} {K : PySem.W.Frag} {mg : Str → Option Value} {base : Heap} (T : Txt K mg) : FnG P w K mg base CX0 2 T.f_is_let T.d_is_let P_is_let (spD K false S_is_let) :=
  fnD (k := 1) T.F_is_let sc_is_let len_is_let fun cdv A outer s H E hr => ⟨_, wk_is_let T mono_worked_at ((ok_worked_at T).mono (by decide)) cdv A outer s H E hr, rd_is_let⟩
theorem mono_is_plan_for : MonoF S_is_plan_for := fun avs hd Q Q' E E' w _ ⟨v0, v1, v2, v3, e, c0, c1, c2, q⟩ => ⟨v0, v1, v2, v3, e, c0, c1, c2, w _ _ q⟩
theorem len_is_plan_for : ∀ avs hd Q E, S_is_plan_for avs hd Q E → avs.length = P_is_plan_for.length := fun _ _ _ _ ⟨_, _, _, _, e, _⟩ => by rw [e]; rfl
theorem ok_is_plan_for {P : Program} {w : World} {K : PySem.W.Frag} {mg : Str → Option Value} {base : Heap} (T : Txt K mg) : FnG P w K mg base CX0 3 T.f_is_plan_for T.d_is_plan_for P_is_plan_for (spD K false S_is_plan_for) :=
  fnD (k := 2) T.F_is_plan_for sc_is_plan_for len_is_plan_for fun cdv A outer s H E hr => ⟨_, wk_is_plan_for T mono_is_within ((ok_is_within T).mono (by decide)) mono_is_sized ((ok_is_sized T).mono (by decide)) mono_is_let ((ok_is_let T).mono (by decide)) cdv A outer s H E hr, rd_is_plan_for⟩
theorem mono_is_plan : MonoF S_is_plan := fun avs hd Q Q' E E' w _ ⟨v0, v1, v2, v3, e, c0, c1, c2, c3, c4, c5, q⟩ => ⟨v0, v1, v2, v3, e, c0, c1, c2, c3, c4, c5, w _ _ q⟩
theorem len_is_plan : ∀ avs hd Q E, S_is_plan avs hd Q E → avs.length = P_is_plan.length := fun _ _ _ _ ⟨_, _, _, _, e, _⟩ => by rw [e]; rfl
theorem ok_is_plan {P : Program} {w : World} {K : PySem.W.Frag} {mg : Str → Option Value} {base : Heap} (T : Txt K mg) : FnG P w K mg base CX0 9 T.f_is_plan T.d_is_plan P_is_plan (spD K false S_is_plan) :=
  fnD (k := 8) T.F_is_plan sc_is_plan len_is_plan fun cdv A outer s H E hr => ⟨_, wk_is_plan T mono_check_hands ((ok_check_hands T).mono (by decide)) mono_is_plan_for ((ok_is_plan_for T).mono (by decide)) cdv A outer s H E hr, rd_is_plan⟩
theorem mono_raw_in_turn : MonoF S_raw_in_turn := fun avs hd Q Q' E E' w _ ⟨v0, v1, v2, v3, e, c0, c1, c2, c3, q⟩ => ⟨v0, v1, v2, v3, e, c0, c1, c2, c3, w _ _ q⟩
theorem len_raw_in_turn : ∀ avs hd Q E, S_raw_in_turn avs hd Q E → avs.length = P_raw_in_turn.length := fun _ _ _ _ ⟨_, _, _, _, e, _⟩ => by rw [e]; rfl
theorem ok_raw_in_turn {P : Program} {w : World} {K : PySem.W.Frag} {mg : Str → Option Value} {base : Heap} (T : Txt K mg) : FnG P w K mg base CX0 3 T.f_raw_in_turn T.d_raw_in_turn P_raw_in_turn (spD K false S_raw_in_turn) :=
  fnD (k := 2) T.F_raw_in_turn sc_raw_in_turn len_raw_in_turn fun cdv A outer s H E hr => ⟨_, wk_raw_in_turn T mono_is_let ((ok_is_let T).mono (by decide)) cdv A outer s H E hr, rd_raw_in_turn⟩
theorem mono_in_turn : MonoF S_in_turn := fun avs hd Q Q' E E' w _ ⟨v0, v1, v2, v3, e, c0, c1, c2, c3, c4, c5, q⟩ => ⟨v0, v1, v2, v3, e, c0, c1, c2, c3, c4, c5, w _ _ q⟩
theorem len_in_turn : ∀ avs hd Q E, S_in_turn avs hd Q E → avs.length = P_in_turn.length := fun _ _ _ _ ⟨_, _, _, _, e, _⟩ => by rw [e]; rfl
theorem ok_in_turn {P : Program} {w : World} {K : PySem.W.Frag} {mg : Str → Option Value} {base : Heap} (T : Txt K mg) : FnG P w K mg base CX0 9 T.f_in_turn T.d_in_turn P_in_turn (spD K false S_in_turn) :=
  fnD (k := 8) T.F_in_turn sc_in_turn len_in_turn fun cdv A outer s H E hr => ⟨_, wk_in_turn T mono_is_order ((ok_is_order T).mono (by decide)) mono_keeps_needs ((ok_keeps_needs T).mono (by decide)) mono_check_hands ((ok_check_hands T).mono (by decide)) mono_raw_in_turn ((ok_raw_in_turn T).mono (by decide)) cdv A outer s H E hr, rd_in_turn⟩
theorem mono_end_of : MonoF S_end_of := fun avs hd Q Q' E E' w _ ⟨v0, v1, e, c0, c1, c2, q⟩ => ⟨v0, v1, e, c0, c1, c2, w _ _ q⟩
theorem len_end_of : ∀ avs hd Q E, S_end_of avs hd Q E → avs.length = P_end_of.length := fun _ _ _ _ ⟨_, _, e, _⟩ => by rw [e]; rfl
theorem ok_end_of {P : Program} {w : World} {K : PySem.W.Frag} {mg : Str → Option Value} {base : Heap} (T : Txt K mg) : FnG P w K mg base CX0 1 T.f_end_of T.d_end_of P_end_of (spD K false S_end_of) :=
  fnD (k := 0) T.F_end_of sc_end_of len_end_of fun cdv A outer s H E hr => ⟨_, wk_end_of T  cdv A outer s H E hr, rd_end_of⟩
theorem mono_raw_least_time : MonoF S_raw_least_time := fun avs hd Q Q' E E' w _ ⟨v0, v1, v2, e, c0, c1, c2, c3, q⟩ => ⟨v0, v1, v2, e, c0, c1, c2, c3, fun a0 a1 a2 => w _ _ (q a0 a1 a2)⟩
theorem len_raw_least_time : ∀ avs hd Q E, S_raw_least_time avs hd Q E → avs.length = P_raw_least_time.length := fun _ _ _ _ ⟨_, _, _, e, _⟩ => by rw [e]; rfl
theorem ok_raw_least_time {P : Program} {w : World} {K : PySem.W.Frag} {mg : Str → Option Value} {base : Heap} (T : Txt K mg) : FnG P w K mg base CX0 4 T.f_raw_least_time T.d_raw_least_time P_raw_least_time (spD K false S_raw_least_time) :=
  fnD (k := 3) T.F_raw_least_time sc_raw_least_time len_raw_least_time fun cdv A outer s H E hr => ⟨_, wk_raw_least_time T mono_all_orders ((ok_all_orders T).mono (by decide)) mono_keeps_needs ((ok_keeps_needs T).mono (by decide)) mono_raw_in_turn ((ok_raw_in_turn T).mono (by decide)) mono_end_of ((ok_end_of T).mono (by decide)) cdv A outer s H E hr, rd_raw_least_time⟩
theorem mono_least_time : MonoF S_least_time := fun avs hd Q Q' E E' w _ ⟨v0, v1, v2, e, c0, c1, c2, c3, c4, c5, q⟩ => ⟨v0, v1, v2, e, c0, c1, c2, c3, c4, c5, fun a0 a1 a2 => w _ _ (q a0 a1 a2)⟩
theorem len_least_time : ∀ avs hd Q E, S_least_time avs hd Q E → avs.length = P_least_time.length := fun _ _ _ _ ⟨_, _, _, e, _⟩ => by rw [e]; rfl
theorem ok_least_time {P : Program} {w : World} {K : PySem.W.Frag} {mg : Str → Option Value} {base : Heap} (T : Txt K mg) : FnG P w K mg base CX0 9 T.f_least_time T.d_least_time P_least_time (spD K false S_least_time) :=
  fnD (k := 8) T.F_least_time sc_least_time len_least_time fun cdv A outer s H E hr => ⟨_, wk_least_time T mono_check_hands ((ok_check_hands T).mono (by decide)) mono_raw_least_time ((ok_raw_least_time T).mono (by decide)) cdv A outer s H E hr, rd_least_time⟩
theorem mono_is_least_time : MonoF S_is_least_time := fun avs hd Q Q' E E' w _ ⟨v0, v1, v2, v3, e, c0, c1, c2, c3, c4, c5, c6, q⟩ => ⟨v0, v1, v2, v3, e, c0, c1, c2, c3, c4, c5, c6, fun a0 a1 => w _ _ (q a0 a1)⟩
theorem len_is_least_time : ∀ avs hd Q E, S_is_least_time avs hd Q E → avs.length = P_is_least_time.length := fun _ _ _ _ ⟨_, _, _, _, e, _⟩ => by rw [e]; rfl
theorem ok_is_least_time {P : Program} {w : World} {K : PySem.W.Frag} {mg : Str → Option Value} {base : Heap} (T : Txt K mg) : FnG P w K mg base CX0 9 T.f_is_least_time T.d_is_least_time P_is_least_time (spD K false S_is_least_time) :=
  fnD (k := 8) T.F_is_least_time sc_is_least_time len_is_least_time fun cdv A outer s H E hr => ⟨_, wk_is_least_time T mono_is_within ((ok_is_within T).mono (by decide)) mono_is_sized ((ok_is_sized T).mono (by decide)) mono_check_hands ((ok_check_hands T).mono (by decide)) mono_is_plan_for ((ok_is_plan_for T).mono (by decide)) mono_end_of ((ok_end_of T).mono (by decide)) mono_raw_least_time ((ok_raw_least_time T).mono (by decide)) cdv A outer s H E hr, rd_is_least_time⟩
theorem mono__law_draw : MonoF S__law_draw := fun avs hd Q Q' E E' w _ ⟨v0, e, c0, c1, c2, q⟩ => ⟨v0, e, c0, c1, c2, fun a0 a1 a2 a3 => w _ _ (q a0 a1 a2 a3)⟩
theorem len__law_draw : ∀ avs hd Q E, S__law_draw avs hd Q E → avs.length = P__law_draw.length := fun _ _ _ _ ⟨_, e, _⟩ => by rw [e]; rfl
theorem ok__law_draw {P : Program} {w : World} {K : PySem.W.Frag} {mg : Str → Option Value} {base : Heap} (T : Txt K mg) : FnG P w K mg base CX0 1 T.f__law_draw T.d__law_draw P__law_draw (spD K false S__law_draw) :=
  fnD (k := 0) T.F__law_draw sc__law_draw len__law_draw fun cdv A outer s H E hr => ⟨_, wk__law_draw T  cdv A outer s H E hr, rd__law_draw⟩
theorem mono__law_any : MonoF S__law_any := fun avs hd Q Q' E E' w _ ⟨v0, e, c0, c1, c2, q⟩ => ⟨v0, e, c0, c1, c2, fun a0 a1 a2 a3 => w _ _ (q a0 a1 a2 a3)⟩
theorem len__law_any : ∀ avs hd Q E, S__law_any avs hd Q E → avs.length = P__law_any.length := fun _ _ _ _ ⟨_, e, _⟩ => by rw [e]; rfl
theorem ok__law_any {P : Program} {w : World} {K : PySem.W.Frag} {mg : Str → Option Value} {base : Heap} (T : Txt K mg) : FnG P w K mg base CX0 2 T.f__law_any T.d__law_any P__law_any (spD K false S__law_any) :=
  fnD (k := 1) T.F__law_any sc__law_any len__law_any fun cdv A outer s H E hr => ⟨_, wk__law_any T mono__law_draw ((ok__law_draw T).mono (by decide)) cdv A outer s H E hr, rd__law_any⟩
theorem mono__law_mixed : MonoF S__law_mixed := fun avs hd Q Q' E E' w _ ⟨v0, e, c0, c1, q⟩ => ⟨v0, e, c0, c1, fun a0 a1 a2 a3 => w _ _ (q a0 a1 a2 a3)⟩
theorem len__law_mixed : ∀ avs hd Q E, S__law_mixed avs hd Q E → avs.length = P__law_mixed.length := fun _ _ _ _ ⟨_, e, _⟩ => by rw [e]; rfl
theorem ok__law_mixed {P : Program} {w : World} {K : PySem.W.Frag} {mg : Str → Option Value} {base : Heap} (T : Txt K mg) : FnG P w K mg base CX0 2 T.f__law_mixed T.d__law_mixed P__law_mixed (spD K false S__law_mixed) :=
  fnD (k := 1) T.F__law_mixed sc__law_mixed len__law_mixed fun cdv A outer s H E hr => ⟨_, wk__law_mixed T mono__law_draw ((ok__law_draw T).mono (by decide)) cdv A outer s H E hr, rd__law_mixed⟩
theorem mono_same (n : Nat) : MonoF (S_same n) := fun avs hd Q Q' E E' w _ h => h.elim (fun ⟨i, e, p, q⟩ => .inl ⟨i, e, p, w _ _ q⟩) fun ⟨d, i, e, q⟩ => .inr ⟨d, i, e, w _ _ q⟩
theorem len_same (n : Nat) : ∀ avs hd Q E, S_same n avs hd Q E → avs.length = P__law_same.length := fun _ _ _ _ h => h.elim (fun ⟨_, e, _⟩ => by rw [e]; rfl) fun ⟨_, _, e, _⟩ => by rw [e]; rfl
theorem fn_never {P : Program} {w : World} {K : PySem.W.Frag} {mg : Str → Option Value} {base : Heap} {k : Nat} {f : Addr} {fd : FuncData} {ps : List Str} {fr : Bool} : FnG P w K mg base CX0 k f fd ps (spD K fr fun _ _ _ _ => False) :=
  ⟨fun _ _ _ _ ⟨_, _, _, _, _, _, _, z⟩ => z.elim, fun _ _ _ _ _ _ _ _ _ _ _ _ _ ⟨_, _, _, _, _, _, _, z⟩ => z.elim⟩
theorem ok_same {P : Program} {w : World} {K : PySem.W.Frag} {mg : Str → Option Value} {base : Heap} (T : Txt K mg) : ∀ n, FnG P w K mg base CX0 (n + 1) T.f__law_same T.d__law_same P__law_same (spD K false (S_same n))
  | 0 => fnD (k := 0) T.F__law_same sc__law_same (len_same 0) fun cdv A outer s H E hr => ⟨_, wk__law_same T (fun _ _ _ _ _ _ _ _ z => z) fn_never cdv A outer s H E hr, rd__law_same (fun _ _ _ _ => False) 0 (fun m d hd Q E e => nomatch e)⟩
  | n + 1 => fnD (k := n + 1) T.F__law_same sc__law_same (len_same (n + 1)) fun cdv A outer s H E hr => ⟨_, wk__law_same T (mono_same n) (ok_same T n) cdv A outer s H E hr, rd__law_same (S_same n) (n + 1) fun m d hd Q E e o q => by cases e; exact .inl ⟨d, rfl, o, q⟩⟩
abbrev S__law_same : FSpec := S_same 3
theorem mono__law_same : MonoF S__law_same := mono_same 3
theorem ok__law_same {P : Program} {w : World} {K : PySem.W.Frag} {mg : Str → Option Value} {base : Heap} (T : Txt K mg) : FnG P w K mg base CX0 4 T.f__law_same T.d__law_same P__law_same (spD K false S__law_same) := ok_same T 3
theorem mono__law_is_integer : MonoF S__law_is_integer := fun avs hd Q Q' E E' w _ ⟨v0, e, q⟩ => ⟨v0, e, w _ _ q⟩
theorem len__law_is_integer : ∀ avs hd Q E, S__law_is_integer avs hd Q E → avs.length = P__law_is_integer.length := fun _ _ _ _ ⟨_, e, _⟩ => by rw [e]; rfl
theorem ok__law_is_integer {P : Program} {w : World} {K : PySem.W.Frag} {mg : Str → Option Value} {base : Heap} (T : Txt K mg) : FnG P w K mg base CX0 1 T.f__law_is_integer T.d__law_is_integer P__law_is_integer (spD K false S__law_is_integer) :=
  fnD (k := 0) T.F__law_is_integer sc__law_is_integer len__law_is_integer fun cdv A outer s H E hr => ⟨_, wk__law_is_integer T  cdv A outer s H E hr, rd__law_is_integer⟩
theorem mono__law_round_free : MonoF S__law_round_free := fun avs hd Q Q' E E' w _ ⟨v0, e, c0, c1, c2, q⟩ => ⟨v0, e, c0, c1, c2, fun a0 a1 a2 a3 => w _ _ (q a0 a1 a2 a3)⟩
theorem len__law_round_free : ∀ avs hd Q E, S__law_round_free avs hd Q E → avs.length = P__law_round_free.length := fun _ _ _ _ ⟨_, e, _⟩ => by rw [e]; rfl
theorem ok__law_round_free {P : Program} {w : World} {K : PySem.W.Frag} {mg : Str → Option Value} {base : Heap} (T : Txt K mg) : FnG P w K mg base CX0 3 T.f__law_round_free T.d__law_round_free P__law_round_free (spD K false S__law_round_free) :=
  fnD (k := 2) T.F__law_round_free sc__law_round_free len__law_round_free fun cdv A outer s H E hr => ⟨_, wk__law_round_free T mono__law_draw ((ok__law_draw T).mono (by decide)) mono__law_any ((ok__law_any T).mono (by decide)) mono__law_mixed ((ok__law_mixed T).mono (by decide)) cdv A outer s H E hr, rd__law_round_free⟩
theorem mono__law_times : MonoF S__law_times := fun avs hd Q Q' E E' w _ ⟨v0, e, c0, c1, q⟩ => ⟨v0, e, c0, c1, fun a0 a1 a2 a3 a4 => w _ _ (q a0 a1 a2 a3 a4)⟩
theorem len__law_times : ∀ avs hd Q E, S__law_times avs hd Q E → avs.length = P__law_times.length := fun _ _ _ _ ⟨_, e, _⟩ => by rw [e]; rfl
theorem ok__law_times {P : Program} {w : World} {K : PySem.W.Frag} {mg : Str → Option Value} {base : Heap} (T : Txt K mg) : FnG P w K mg base CX0 3 T.f__law_times T.d__law_times P__law_times (spD K false S__law_times) :=
  fnD (k := 2) T.F__law_times sc__law_times len__law_times fun cdv A outer s H E hr => ⟨_, wk__law_times T mono__law_draw ((ok__law_draw T).mono (by decide)) mono__law_any ((ok__law_any T).mono (by decide)) cdv A outer s H E hr, rd__law_times⟩
theorem mono__law_is_plan : MonoF S__law_is_plan := fun avs hd Q Q' E E' w _ ⟨v0, v1, v2, v3, e, c0, c1, c2, q⟩ => ⟨v0, v1, v2, v3, e, c0, c1, c2, w _ _ q⟩
theorem len__law_is_plan : ∀ avs hd Q E, S__law_is_plan avs hd Q E → avs.length = P__law_is_plan.length := fun _ _ _ _ ⟨_, _, _, _, e, _⟩ => by rw [e]; rfl
theorem ok__law_is_plan {P : Program} {w : World} {K : PySem.W.Frag} {mg : Str → Option Value} {base : Heap} (T : Txt K mg) : FnG P w K mg base CX0 2 T.f__law_is_plan T.d__law_is_plan P__law_is_plan (spD K false S__law_is_plan) :=
  fnD (k := 1) T.F__law_is_plan sc__law_is_plan len__law_is_plan fun cdv A outer s H E hr => ⟨_, wk__law_is_plan T mono__law_is_integer ((ok__law_is_integer T).mono (by decide)) cdv A outer s H E hr, rd__law_is_plan⟩
theorem mono__law_fits : MonoF S__law_fits := fun avs hd Q Q' E E' w _ ⟨v0, v1, v2, v3, v4, v5, e, c0, c1, q⟩ => ⟨v0, v1, v2, v3, v4, v5, e, c0, c1, w _ _ q⟩
theorem len__law_fits : ∀ avs hd Q E, S__law_fits avs hd Q E → avs.length = P__law_fits.length := fun _ _ _ _ ⟨_, _, _, _, _, _, e, _⟩ => by rw [e]; rfl
theorem ok__law_fits {P : Program} {w : World} {K : PySem.W.Frag} {mg : Str → Option Value} {base : Heap} (T : Txt K mg) : FnG P w K mg base CX0 1 T.f__law_fits T.d__law_fits P__law_fits (spD K false S__law_fits) :=
  fnD (k := 0) T.F__law_fits sc__law_fits len__law_fits fun cdv A outer s H E hr => ⟨_, wk__law_fits T  cdv A outer s H E hr, rd__law_fits⟩
theorem mono__law_in_turn : MonoF S__law_in_turn := fun avs hd Q Q' E E' w _ ⟨v0, v1, v2, v3, e, c0, c1, c2, c3, q⟩ => ⟨v0, v1, v2, v3, e, c0, c1, c2, c3, w _ _ q⟩
theorem len__law_in_turn : ∀ avs hd Q E, S__law_in_turn avs hd Q E → avs.length = P__law_in_turn.length := fun _ _ _ _ ⟨_, _, _, _, e, _⟩ => by rw [e]; rfl
theorem ok__law_in_turn {P : Program} {w : World} {K : PySem.W.Frag} {mg : Str → Option Value} {base : Heap} (T : Txt K mg) : FnG P w K mg base CX0 2 T.f__law_in_turn T.d__law_in_turn P__law_in_turn (spD K false S__law_in_turn) :=
  fnD (k := 1) T.F__law_in_turn sc__law_in_turn len__law_in_turn fun cdv A outer s H E hr => ⟨_, wk__law_in_turn T mono__law_fits ((ok__law_fits T).mono (by decide)) cdv A outer s H E hr, rd__law_in_turn⟩
theorem mono__law_end : MonoF S__law_end := fun avs hd Q Q' E E' w _ ⟨v0, v1, e, c0, c1, c2, q⟩ => ⟨v0, v1, e, c0, c1, c2, w _ _ q⟩
theorem len__law_end : ∀ avs hd Q E, S__law_end avs hd Q E → avs.length = P__law_end.length := fun _ _ _ _ ⟨_, _, e, _⟩ => by rw [e]; rfl
theorem ok__law_end {P : Program} {w : World} {K : PySem.W.Frag} {mg : Str → Option Value} {base : Heap} (T : Txt K mg) : FnG P w K mg base CX0 1 T.f__law_end T.d__law_end P__law_end (spD K false S__law_end) :=
  fnD (k := 0) T.F__law_end sc__law_end len__law_end fun cdv A outer s H E hr => ⟨_, wk__law_end T  cdv A outer s H E hr, rd__law_end⟩
theorem mono__law_all_orders : MonoF S__law_all_orders := fun avs hd Q Q' E E' w _ ⟨v0, e, c0, c1, q⟩ => ⟨v0, e, c0, c1, w _ _ q⟩
theorem len__law_all_orders : ∀ avs hd Q E, S__law_all_orders avs hd Q E → avs.length = P__law_all_orders.length := fun _ _ _ _ ⟨_, e, _⟩ => by rw [e]; rfl
theorem ok__law_all_orders {P : Program} {w : World} {K : PySem.W.Frag} {mg : Str → Option Value} {base : Heap} (T : Txt K mg) : FnG P w K mg base CX0 1 T.f__law_all_orders T.d__law_all_orders P__law_all_orders (spD K false S__law_all_orders) :=
  fnD (k := 0) T.F__law_all_orders sc__law_all_orders len__law_all_orders fun cdv A outer s H E hr => ⟨_, wk__law_all_orders T  cdv A outer s H E hr, rd__law_all_orders⟩
theorem mono__law_drawn_order : MonoF S__law_drawn_order := fun avs hd Q Q' E E' w _ ⟨v0, e, c0, c1, q⟩ => ⟨v0, e, c0, c1, fun a0 a1 a2 a3 => w _ _ (q a0 a1 a2 a3)⟩
theorem len__law_drawn_order : ∀ avs hd Q E, S__law_drawn_order avs hd Q E → avs.length = P__law_drawn_order.length := fun _ _ _ _ ⟨_, e, _⟩ => by rw [e]; rfl
theorem ok__law_drawn_order {P : Program} {w : World} {K : PySem.W.Frag} {mg : Str → Option Value} {base : Heap} (T : Txt K mg) : FnG P w K mg base CX0 3 T.f__law_drawn_order T.d__law_drawn_order P__law_drawn_order (spD K false S__law_drawn_order) :=
  fnD (k := 2) T.F__law_drawn_order sc__law_drawn_order len__law_drawn_order fun cdv A outer s H E hr => ⟨_, wk__law_drawn_order T mono__law_any ((ok__law_any T).mono (by decide)) cdv A outer s H E hr, rd__law_drawn_order⟩
theorem mono__law_bent : MonoF S__law_bent := fun avs hd Q Q' E E' w _ ⟨v0, e, c0, c1, c2, c3, q⟩ => ⟨v0, e, c0, c1, c2, c3, fun a0 a1 a2 a3 => w _ _ (q a0 a1 a2 a3)⟩
theorem len__law_bent : ∀ avs hd Q E, S__law_bent avs hd Q E → avs.length = P__law_bent.length := fun _ _ _ _ ⟨_, e, _⟩ => by rw [e]; rfl
theorem ok__law_bent {P : Program} {w : World} {K : PySem.W.Frag} {mg : Str → Option Value} {base : Heap} (T : Txt K mg) : FnG P w K mg base CX0 3 T.f__law_bent T.d__law_bent P__law_bent (spD K false S__law_bent) :=
  fnD (k := 2) T.F__law_bent sc__law_bent len__law_bent fun cdv A outer s H E hr => ⟨_, wk__law_bent T mono__law_draw ((ok__law_draw T).mono (by decide)) mono__law_any ((ok__law_any T).mono (by decide)) cdv A outer s H E hr, rd__law_bent⟩
theorem mono__law_are_plans_right : MonoF S__law_are_plans_right := fun avs hd Q Q' E E' w _ ⟨v0, v1, v2, e, c0, c1, c2, c3, c4, c5, q⟩ => ⟨v0, v1, v2, e, c0, c1, c2, c3, c4, c5, fun a0 a1 a2 a3 => w _ _ (q a0 a1 a2 a3)⟩
theorem len__law_are_plans_right : ∀ avs hd Q E, S__law_are_plans_right avs hd Q E → avs.length = P__law_are_plans_right.length := fun _ _ _ _ ⟨_, _, _, e, _⟩ => by rw [e]; rfl
theorem ok__law_are_plans_right {P : Program} {w : World} {K : PySem.W.Frag} {mg : Str → Option Value} {base : Heap} (T : Txt K mg) : FnG P w K mg base CX0 10 T.f__law_are_plans_right T.d__law_are_plans_right P__law_are_plans_right (spD K false S__law_are_plans_right) :=
  fnD (k := 9) T.F__law_are_plans_right sc__law_are_plans_right len__law_are_plans_right fun cdv A outer s H E hr => ⟨_, wk__law_are_plans_right T mono_is_plan ((ok_is_plan T).mono (by decide)) mono_in_turn ((ok_in_turn T).mono (by decide)) mono__law_same ((ok__law_same T).mono (by decide)) mono__law_is_plan ((ok__law_is_plan T).mono (by decide)) mono__law_in_turn ((ok__law_in_turn T).mono (by decide)) mono__law_drawn_order ((ok__law_drawn_order T).mono (by decide)) mono__law_bent ((ok__law_bent T).mono (by decide)) cdv A outer s H E hr, rd__law_are_plans_right 3 (by decide)⟩
theorem mono__law_is_least_right : MonoF S__law_is_least_right := fun avs hd Q Q' E E' w _ ⟨v0, v1, v2, v3, e, c0, c1, c2, c3, c4, c5, c6, c7, q⟩ => ⟨v0, v1, v2, v3, e, c0, c1, c2, c3, c4, c5, c6, c7, fun a0 a1 => w _ _ (q a0 a1)⟩
theorem len__law_is_least_right : ∀ avs hd Q E, S__law_is_least_right avs hd Q E → avs.length = P__law_is_least_right.length := fun _ _ _ _ ⟨_, _, _, _, e, _⟩ => by rw [e]; rfl
theorem ok__law_is_least_right {P : Program} {w : World} {K : PySem.W.Frag} {mg : Str → Option Value} {base : Heap} (T : Txt K mg) : FnG P w K mg base CX0 10 T.f__law_is_least_right T.d__law_is_least_right P__law_is_least_right (spD K false S__law_is_least_right) :=
  fnD (k := 9) T.F__law_is_least_right sc__law_is_least_right len__law_is_least_right fun cdv A outer s H E hr => ⟨_, wk__law_is_least_right T mono_ends_of ((ok_ends_of T).mono (by decide)) mono_least_time ((ok_least_time T).mono (by decide)) mono_is_least_time ((ok_is_least_time T).mono (by decide)) mono__law_any ((ok__law_any T).mono (by decide)) mono__law_same ((ok__law_same T).mono (by decide)) mono__law_is_plan ((ok__law_is_plan T).mono (by decide)) mono__law_in_turn ((ok__law_in_turn T).mono (by decide)) mono__law_end ((ok__law_end T).mono (by decide)) mono__law_all_orders ((ok__law_all_orders T).mono (by decide)) mono__law_bent ((ok__law_bent T).mono (by decide)) cdv A outer s H E hr, rd__law_is_least_right 3 (by decide)⟩
end Lw
end
section
set_option Elab.async false
set_option linter.all false
set_option maxRecDepth 100000
set_option maxHeartbeats 4000000
open PySem PySem.Spec PyProof.Rows L2 PD
namespace Lw
/-! plans that can be worked out -/
def insI (x : Nat) : List Nat → List Nat
  | [] => [x]
  | y :: l => if x ≤ y then x :: y :: l else y :: insI x l
def isrt : List Nat → List Nat
  | [] => []
  | x :: l => insI x (isrt l)
theorem insI_perm (x : Nat) : ∀ l, (insI x l).Perm (x :: l)
  | [] => List.Perm.refl _
  | y :: l => by
    unfold insI
    split
    · exact List.Perm.refl _
    · exact ((insI_perm x l).cons y).trans (List.Perm.swap _ _ _)
theorem isrt_perm : ∀ l, (isrt l).Perm l
  | [] => List.Perm.refl _
  | x :: l => (insI_perm x _).trans ((isrt_perm l).cons x)
theorem insI_le (x : Nat) : ∀ l : List Nat, l.Pairwise (· ≤ ·) → (insI x l).Pairwise (· ≤ ·)
  | [], _ => List.pairwise_singleton _ _
  | y :: l, h => by
    obtain ⟨h1, h2⟩ := List.pairwise_cons.mp h
    unfold insI
    split
    · rename_i c
      refine List.pairwise_cons.mpr ⟨fun z hz => ?_, h⟩
      rcases List.mem_cons.mp hz with q | q
      · rw [q]; exact c
      · exact Nat.le_trans c (h1 z q)
    · rename_i c
      refine List.pairwise_cons.mpr ⟨fun z hz => ?_, insI_le x l h2⟩
      rcases List.mem_cons.mp ((insI_perm x l).mem_iff.mp hz) with q | q
      · rw [q]; omega
      · exact h1 z q
theorem isrt_le : ∀ l, (isrt l).Pairwise (· ≤ ·)
  | [] => List.Pairwise.nil
  | x :: l => insI_le x _ (isrt_le l)
theorem srt_isrt (l : List Nat) : srt l = isrt l :=
  List.Perm.eq_of_pairwise (le := (· ≤ ·)) (fun a b _ _ => Nat.le_antisymm) (srt_le l) (isrt_le l) ((List.mergeSort_perm l _).trans (isrt_perm l).symm)
def pickI (st : List (List Nat)) (ts : List Nat) (h : Nat) (o : List Nat) (f : Nat → Nat) (i : Nat) : Nat := ((isrt (cands st ts o f i)).find? (letm ts h o f i)).getD 0
def runI (st : List (List Nat)) (ts : List Nat) (h : Nat) : List Nat → List Nat → (Nat → Nat) → Nat → Nat
  | [], _, f => f
  | i :: l, o, f => runI st ts h l (o ++ [i]) (upf f i (pickI st ts h o f i))
theorem run_I (st : List (List Nat)) (ts : List Nat) (h : Nat) : ∀ (l o : List Nat) (f : Nat → Nat), run st ts h l o f = runI st ts h l o f
  | [], _, _ => rfl
  | i :: l, o, f => by
    have e : pick st ts h o f i = pickI st ts h o f i := by unfold pick pickI moms; rw [srt_isrt]
    rw [run, runI, e]
    exact run_I st ts h l _ _
theorem planL_I (st : List (List Nat)) (ts : List Nat) (h : Nat) (o : List Nat) : planL st ts h o = (List.range st.length).map (runI st ts h o [] fun _ => 0) := by
  unfold planL planF
  rw [run_I]
/-! the law's own cases -/
def st0 : List (List Nat) := [[], [0], [0], [1, 2]]
def st1 : List (List Nat) := [[], [], []]
def st2 : List (List Nat) := [[], []]
def st3 : List (List Nat) := [[], [0]]
theorem rank_up {st : List (List Nat)} (h : ∀ p ∈ st.zipIdx, ∀ x ∈ p.1, x < p.2) : ∃ r : Nat → Nat, ∀ (i : Nat) (l : List Nat), st[i]? = some l → ∀ x ∈ l, r x < r i :=
  ⟨fun i => i, fun i l e x hx => h (l, i) (List.mk_mem_zipIdx_iff_getElem?.mpr e) x hx⟩
theorem ok_st0 : Ok st0 := ⟨by decide, by decide, by unfold rising; decide, by decide, rank_up (by decide)⟩
theorem ok_st1 : Ok st1 := ⟨by decide, by decide, by unfold rising; decide, by decide, rank_up (by decide)⟩
theorem ok_st2 : Ok st2 := ⟨by decide, by decide, by unfold rising; decide, by decide, rank_up (by decide)⟩
theorem ok_st3 : Ok st3 := ⟨by decide, by decide, by unfold rising; decide, by decide, rank_up (by decide)⟩
theorem up_of {st : List (List Nat)} {ts : List Nat} {h e b : Nat} (v : Ok st) (ht : ts.length = st.length) (h1 : 1 ≤ h) (p : List Nat) (hp : planB st ts h (nT p) = true) (hb : ∀ i, i < st.length → at0 p i + at0 ts i ≤ b) (l : Least st ts h e) : e ≤ b :=
  least_of v ht h1 ((planB_good v p).mp hp).2 l hb
theorem least1 {e : Nat} (l : Least st0 [1, 2, 3, 1] 1 e) : e = 7 := by
  have h1 := up_of ok_st0 rfl (by decide) [0, 1, 3, 6] (by decide +kernel) (b := 7) (by decide) l
  have h2 : [1, 2, 3, 1].sum ≤ e * 1 := least_area rfl (by decide) l
  have : [1, 2, 3, 1].sum = 7 := rfl
  omega
theorem least2 {e : Nat} (l : Least st0 [1, 2, 3, 1] 2 e) : e = 5 := by
  have h1 := up_of ok_st0 rfl (by decide) [0, 1, 1, 4] (by decide +kernel) (b := 5) (by decide) l
  have h2 := least_ends ok_st0 rfl (by decide) l
  have : gr (ends st0 [1, 2, 3, 1]) = 5 := by decide +kernel
  omega
theorem turn1 : planL st1 [2, 1, 1] 2 [0, 1, 2] = [0, 0, 1] := by
  rw [planL_I]
  decide +kernel
theorem topo1 : Topo st1 [0, 1, 2] := ⟨List.Perm.refl _, fun p i s _ x hx => by
  have : nds st1 i = [] := by
    unfold nds st1
    match i with
    | 0 => rfl
    | 1 => rfl
    | 2 => rfl
    | i + 3 => rfl
  rw [this] at hx
  cases hx⟩
theorem plan2 : planB st2 [1, 1] 1 (nT [0, 0]) = false := by decide +kernel
theorem plan3 : planB st2 [1, 0] 1 (nT [0, 0]) = true := by decide +kernel
theorem plan4 : planB st3 [2, 0] 1 (nT [0, 1]) = false := by decide +kernel
end Lw
end
section
set_option Elab.async false
set_option linter.all false
set_option maxRecDepth 100000
set_option maxHeartbeats 4000000
open PySem PySem.Spec PyProof.Rows L2 PD
namespace Lw
theorem ne_nL (l : List Nat) : neD (.list (l.map nD)) (.list (l.map nD)) = some (.bool false) := by
  have e : PyData.eqv (.list (l.map nD)) (.list (l.map nD)) = true := by
    rw [PyData.eqv]; exact PySem.W.eqvAll_refl_alike _ (alikeAll_nD l l)
  have h : okEq (.list (l.map nD)) (.list (l.map nD)) = true := by
    unfold okEq
    simp [PyData.plain, plainAll_nD]
  unfold neD
  rw [if_pos h, e]; rfl
theorem fit_nT {p : List Nat} (h1 : p.length ≤ 100) (h2 : ∀ x ∈ p, x ≤ 2000) : Fit (nT p) := (Bent.plan h1 h2).fit
theorem rd_law (hd : List PyData) (hh : HandD hd) : t_law S_is_plan S_in_turn S_least_time S__law_draw S__law_any (S_same 3) S__law_round_free S__law_times S__law_are_plans_right S__law_is_least_right lawEnds ⟨(List.replicate 7 .no).set 1 .h, hd⟩ := by
  simp only [t_law]
  refine sq_of (fun s => s = ⟨[.no, .h, .v (stD st0), .v (nT [1, 2, 3, 1]), .no, .no, .no], hd⟩) ?_ fun N hN => ?_
  rotate_left
  · simp [sizeLine]
    refine ⟨_, _, ⟨rfl, rfl⟩, ?_⟩
    exact ⟨_, _, rfl, rfl, hN _ rfl⟩
  rintro s rfl
  refine sq_of (fun s => s = ⟨[.no, .h, .v (stD st0), .v (nT [1, 2, 3, 1]), .no, .no, .no], hd⟩) ?_ fun N hN => ?_
  rotate_left
  · simp [sizeLine]
    show cRun _ _ _ _ _ ([1, 2].map nD) _ _ _
    refine cRun_of nD (fun x => nD (if x = 1 then 7 else 5)) [1, 2] (fun x hx Y y => ?_) [] _ ?_
    · have hx : x = 1 ∨ x = 2 := by simpa using hx
      simp [S_least_time, and_assoc]
      refine ⟨st0, rfl, [1, 2, 3, 1], rfl, x, rfl, ok_st0, rfl, by decide, by decide, by omega, by omega, fun o t L => ⟨_, ix_pair0 _ _, ?_⟩⟩
      rcases hx with rfl | rfl
      · rw [least1 L]; exact y
      · rw [least2 L]; exact y
    · refine ⟨_, ne_nL [7, 5], .inl ⟨rfl, st1, [2, 1, 1], [0, 1, 2], 2, rfl, ok_st1, rfl, by decide, topo1, by decide, by decide, ?_⟩⟩
      rw [turn1]
      exact .inl ⟨_, rfl, okS_nT (p := [0, 0, 1]) (by decide) (by decide), .inr ⟨rfl, hN _ rfl⟩⟩
  rintro s rfl
  refine sq_of (fun s => s = ⟨[.no, .h, .v (stD st0), .v (nT [1, 2, 3, 1]), .no, .no, .no], hd⟩) ?_ fun N hN => ?_
  rotate_left
  · simp [S_is_plan, sizeLine, and_assoc]
    refine ⟨st2, rfl, [1, 1], rfl, 1, rfl, ok_st2, rfl, by decide, by decide, by decide, fit_nT (p := [0, 0]) (by decide) (by decide), st2, rfl, [1, 0], rfl, 1, rfl, ok_st2, rfl, by decide, by decide, by decide, fit_nT (p := [0, 0]) (by decide) (by decide), st3, rfl, [2, 0], rfl, 1, rfl, ok_st3, rfl, by decide, by decide, by decide, fit_nT (p := [0, 1]) (by decide) (by decide), ?_⟩
    rw [show planB st2 [1, 1] 1 (.tuple [.int 0, .int 0]) = false from plan2, show planB st2 [1, 0] 1 (.tuple [.int 0, .int 0]) = true from plan3, show planB st3 [2, 0] 1 (.tuple [.int 0, .int 1]) = false from plan4]
    have e : neD (.list [.bool false, .bool true, .bool false]) (.list [.bool false, .bool true, .bool false]) = some (.bool false) := by
      unfold neD okEq
      simp [PyData.plain, PyData.plainAll, PyData.depth, PyData.depthAll, PyData.eqv, PyData.eqvAll]
    exact ⟨_, e, .inl ⟨rfl, hN _ rfl⟩⟩
  rintro s rfl
  simp
  refine fRun_inv (fun i s => ∃ S2 S3 S4 S5 S6 hd, s = ⟨[.no, .h, .v S2, .v S3, S4, S5, S6], hd⟩ ∧ HandD hd) ?_ ?_ ⟨_, _, _, _, _, _, rfl, hh⟩
  · rintro i d s N hd' ⟨S2, S3, S4, S5, S6, hd, rfl, hh⟩ hN
    refine sq_of (fun s => ∃ st hd, s = ⟨[.no, .h, .v (stD st), .v S3, S4, .v d, S6], hd⟩ ∧ Ok st ∧ HandD hd) ?_ fun N hN => ?_
    rotate_left
    · have key : ∀ m : Nat, 1 ≤ m → m ≤ 10 → ∀ hd, HandD hd → S__law_round_free [.hand, .d (.int (m : Int))] hd (fun x hd => N ⟨[.no, .h, .v x, .v S3, S4, .v d, S6], hd⟩) fun _ _ => False := fun m m1 m2 hd hh => ⟨m, rfl, m1, m2, hh, fun st hd' v hh' => hN _ ⟨st, hd', rfl, v, hh'⟩⟩
      simp [S__law_any, and_assoc]
      exact ⟨by simp [sizeLine], hh, fun hd' hh' => key 4 (by omega) (by omega) hd' hh', fun hd' hh' => key 5 (by omega) (by omega) hd' hh', fun hd' hh' => key 9 (by omega) (by omega) hd' hh'⟩
    rintro s ⟨st, hd, rfl, v, hh⟩
    have n1 := v.n1
    have n2 := v.n2
    have ls : lenD [stD st] = some (nD st.length) := by
      show some (PyData.int _) = _
      rw [List.length_map]; rfl
    simp [ls, S__law_times, S__law_draw, and_assoc]
    refine ⟨st.length, rfl, by omega, hh, fun ts hd1 ht hx hh1 => ?_⟩
    have a1 : ∀ k : Nat, addD (.int 1) (nD k) = some (nD (1 + k)) := fun k => add_nD 1 k
    refine ⟨4, rfl, by omega, by omega, hh1, fun k hd2 hk hh2 => ⟨_, a1 k, by simp [sizeLine], st, ts, 1 + k, rfl, v, ht, hx, by omega, by omega, hh2, fun o hd3 t hh3 => .inl ⟨rfl, _, lt_nDD _ 6, ?_⟩⟩⟩
    by_cases c : st.length < 6
    · rw [decide_eq_true c]
      exact .inr ⟨rfl, st, ts, 1 + k, o, rfl, v, ht, by omega, hx, by omega, by omega, t, hh3, fun hd4 hh4 => .inr ⟨rfl, hN _ ⟨_, _, _, _, _, _, rfl, hh4⟩⟩⟩
    · rw [decide_eq_false c]
      exact .inl ⟨rfl, hN _ ⟨_, _, _, _, _, _, rfl, hh3⟩⟩
  · rintro s ⟨S2, S3, S4, S5, S6, hd, rfl, hh⟩
    simp [lawEnds]
theorem ok__law_hand {P : Program} {w : World} {K : PySem.W.Frag} {mg : Str → Option Value} {base : Heap} (T : Txt K mg) : FnG P w K mg base CX0 1 T.f__law_hand T.d__law_hand P__law_hand (spHand K) := by
  refine Fun.okG T.F__law_hand sc__law_hand (fun vs H Q E ⟨a, ns, e, _⟩ => by rw [e]; rfl) fun cdv A outer s H vs Q E hr h => ?_
  have hu := hu64 hr
  have h' := h
  obtain ⟨a, ns, rfl, _⟩ := h'
  refine ⟨_, PSs.nox (pss_cons (ps_setLc (i := 1) (own := [("cell", 2)]) (g := gName 2) (tt := L2.tYes) (te := lift K tAbs2) rfl sc__law_hand.nd rfl rfl (sw_true rfl rfl rfl (by decide +kernel)) (pi_list (pe_slice sl_list (pv 0) po_none (po_some pe_int))) (blkOk_by (own := [("cell", 2)]) (N := N__law_hand) (sc := defScope s__law_hand) (by decide +kernel)) (fun _ _ _ _ _ => pg_name (i := 2) sc__law_hand.nd rfl (Or.inl rfl)) (fun _ _ _ _ _ => pts_nil)
    (fun _ _ _ _ _ => DE.pe (t := tAbs2) (de_callB call_absP (by rfl) T.m_abs bt_abs (dls_cons (DE.dl (de_callTy call_intP (by rfl) T.m_int bt_int (dls_cons (dl_var 2) dls_nil))) dls_nil))))
    (DSs.ps (dss_cons (ds_ret (DE.x (DF.de (df_lst (da_cons (de_var 1) (da_cons de_int (da_cons de_int (da_cons (de_op op_addD (DE.dl de_int) (DE.dl (de_op op_mulD (DE.dl de_int) (DE.dl (de_callB call_lenP (by rfl) T.m_len bt_len (dls_cons (dl_var 1) dls_nil)))))) (da_cons de_int da_nil))))))))) dss_nil))), ?_⟩
  exact hand_read h rfl
theorem pss_law {X : Cx} {b : List Stmt} {s : Stmt} {t u : TS} (h0 : b.head? = some s) (hs : PS X s t) (hr : PSs X (b.drop 1) u) : PSs X b (tSeq t u) := by
  cases b with
  | nil => cases h0
  | cons x b =>
    cases h0
    exact pss_cons hs hr
theorem ok_law {P : Program} {w : World} {K : PySem.W.Frag} {mg : Str → Option Value} {base : Heap} (T : Txt K mg) : FnG P w K mg base CX0 20 T.f_law T.d_law ["script"] (spLaw K) := by
  refine (Fun.okG T.F_law (k := 19) sc_law (fun vs H Q E ⟨a, ns, e, _⟩ => by rw [e]; rfl) fun cdv A outer s H vs Q E hr h => ?_)
  obtain ⟨a, ns, rfl, hs, hl, q⟩ := h
  have W := wk_law (P := P) (w := w) (base := base) T mono_is_plan ((ok_is_plan T).mono (by decide)) mono_in_turn ((ok_in_turn T).mono (by decide)) mono_least_time ((ok_least_time T).mono (by decide)) mono__law_draw ((ok__law_draw T).mono (by decide)) mono__law_any ((ok__law_any T).mono (by decide)) mono__law_same ((ok__law_same T).mono (by decide)) mono__law_round_free ((ok__law_round_free T).mono (by decide)) mono__law_times ((ok__law_times T).mono (by decide)) mono__law_are_plans_right ((ok__law_are_plans_right T).mono (by decide)) mono__law_is_least_right ((ok__law_is_least_right T).mono (by decide)) cdv A outer s H E hr
  refine ⟨_, PSs.nox (pss_law (X := (cxOf CX0 P w K mg base N_law "law" (defScope s_law) T.f_law cdv A outer s H E).nox) (b := defBody s_law) rfl (ps_set (i := 1) sc_law.nd rfl (by first | exact .inl rfl | exact .inr rfl) (pe_callG (ok__law_hand T) (hr.mono (by decide)) (by rfl) T.g__law_hand T.F__law_hand.kp T.b__law_hand .nil pass0 (pa_cons (pv 0) pa_nil))) W.ps), ?_⟩
  exact law_read (i := 1) (m := 6) W.mono hs hl rfl q (by decide) fun hd hh => rd_law hd hh
end Lw
end
section
set_option Elab.async false
set_option linter.all false
set_option maxRecDepth 100000
set_option maxHeartbeats 4000000
open PySem PySem.Spec PyProof.Rows L2 PD
namespace Lw
theorem all_mk {l : PySem.W.OpenLaw} {w : World} {K : PySem.W.Frag} {h : Heap} {mg : Str → Option Value} {fa : Addr} (X : K.In h) (G : h.Ns mainGlobals mg) (hfa : mg "law" = some (.ref fa))
  {f0 f1 f2 f3 f4 f5 f6 f7 f8 f9 f10 f11 f12 f13 f14 f15 f16 f17 f18 f19 f20 f21 f22 f23 f24 f25 f26 f27 f28 f29 f30 f31 f32 f33 f34 f35 f36 f37 f38 f39 f40 f41 f42 f43 : Addr} {od0 an0 od1 an1 od2 an2 od3 an3 od4 an4 od5 an5 od6 an6 od7 an7 od8 an8 od9 an9 od10 an10 od11 an11 od12 an12 od13 an13 od14 an14 od15 an15 od16 an16 od17 an17 od18 an18 od19 an19 od20 an20 od21 an21 od22 an22 od23 an23 od24 an24 od25 an25 od26 an26 od27 an27 od28 an28 od29 an29 od30 an30 od31 an31 od32 an32 od33 an33 od34 an34 od35 an35 od36 an36 od37 an37 od38 an38 od39 an39 od40 an40 od41 an41 od42 an42 od43 an43 : Option Addr} {sl0 sl1 sl2 sl3 sl4 sl5 sl6 sl7 sl8 sl9 sl10 sl11 sl12 sl13 sl14 sl15 sl16 sl17 sl18 sl19 sl20 sl21 sl22 sl23 sl24 sl25 sl26 sl27 sl28 sl29 sl30 sl31 sl32 sl33 sl34 sl35 sl36 sl37 sl38 sl39 sl40 sl41 sl42 sl43 : Array (Option Value)} {oc0 kV0 dc0 pm0 cd0 ct0 oc1 kV1 dc1 pm1 cd1 ct1 oc2 kV2 dc2 pm2 cd2 ct2 oc3 kV3 dc3 pm3 cd3 ct3 oc4 kV4 dc4 pm4 cd4 ct4 oc5 kV5 dc5 pm5 cd5 ct5 oc6 kV6 dc6 pm6 cd6 ct6 oc7 kV7 dc7 pm7 cd7 ct7 oc8 kV8 dc8 pm8 cd8 ct8 oc9 kV9 dc9 pm9 cd9 ct9 oc10 kV10 dc10 pm10 cd10 ct10 oc11 kV11 dc11 pm11 cd11 ct11 oc12 kV12 dc12 pm12 cd12 ct12 oc13 kV13 dc13 pm13 cd13 ct13 oc14 kV14 dc14 pm14 cd14 ct14 oc15 kV15 dc15 pm15 cd15 ct15 oc16 kV16 dc16 pm16 cd16 ct16 oc17 kV17 dc17 pm17 cd17 ct17 oc18 kV18 dc18 pm18 cd18 ct18 oc19 kV19 dc19 pm19 cd19 ct19 oc20 kV20 dc20 pm20 cd20 ct20 oc21 kV21 dc21 pm21 cd21 ct21 oc22 kV22 dc22 pm22 cd22 ct22 oc23 kV23 dc23 pm23 cd23 ct23 oc24 kV24 dc24 pm24 cd24 ct24 oc25 kV25 dc25 pm25 cd25 ct25 oc26 kV26 dc26 pm26 cd26 ct26 oc27 kV27 dc27 pm27 cd27 ct27 oc28 kV28 dc28 pm28 cd28 ct28 oc29 kV29 dc29 pm29 cd29 ct29 oc30 kV30 dc30 pm30 cd30 ct30 oc31 kV31 dc31 pm31 cd31 ct31 oc32 kV32 dc32 pm32 cd32 ct32 oc33 kV33 dc33 pm33 cd33 ct33 oc34 kV34 dc34 pm34 cd34 ct34 oc35 kV35 dc35 pm35 cd35 ct35 oc36 kV36 dc36 pm36 cd36 ct36 oc37 kV37 dc37 pm37 cd37 ct37 oc38 kV38 dc38 pm38 cd38 ct38 oc39 kV39 dc39 pm39 cd39 ct39 oc40 kV40 dc40 pm40 cd40 ct40 oc41 kV41 dc41 pm41 cd41 ct41 oc42 kV42 dc42 pm42 cd42 ct42 oc43 kV43 dc43 pm43 cd43 ct43 : Value} {t0 t1 t2 t3 : Tok}
  (a0 : PySem.W.nsIn K mainGlobals "is_integer" = some (some (.ref f0))) (l0 : K.lookup f0 = some ⟨oc0, od0, .func (PySem.W.fnOf "is_integer" "is_integer" (defArgs s_is_integer) (defBody s_is_integer) (defScope s_is_integer) .none kV0 dc0 pm0 an0 cd0 ct0), sl0⟩) (c0 : PySem.W.codeIn K cd0 "is_integer" = true) (k0 : PySem.W.keepIn K (.ref f0) = true)
  (a1 : PySem.W.nsIn K mainGlobals "is_within" = some (some (.ref f1))) (l1 : K.lookup f1 = some ⟨oc1, od1, .func (PySem.W.fnOf "is_within" "is_within" (defArgs s_is_within) (defBody s_is_within) (defScope s_is_within) .none kV1 dc1 pm1 an1 cd1 ct1), sl1⟩) (c1 : PySem.W.codeIn K cd1 "is_within" = true) (k1 : PySem.W.keepIn K (.ref f1) = true)
  (a2 : PySem.W.nsIn K mainGlobals "is_sized" = some (some (.ref f2))) (l2 : K.lookup f2 = some ⟨oc2, od2, .func (PySem.W.fnOf "is_sized" "is_sized" (defArgs s_is_sized) (defBody s_is_sized) (defScope s_is_sized) .none kV2 dc2 pm2 an2 cd2 ct2), sl2⟩) (c2 : PySem.W.codeIn K cd2 "is_sized" = true) (k2 : PySem.W.keepIn K (.ref f2) = true)
  (a3 : PySem.W.nsIn K mainGlobals "are_rising" = some (some (.ref f3))) (l3 : K.lookup f3 = some ⟨oc3, od3, .func (PySem.W.fnOf "are_rising" "are_rising" (defArgs s_are_rising) (defBody s_are_rising) (defScope s_are_rising) .none kV3 dc3 pm3 an3 cd3 ct3), sl3⟩) (c3 : PySem.W.codeIn K cd3 "are_rising" = true) (k3 : PySem.W.keepIn K (.ref f3) = true)
  (a4 : PySem.W.nsIn K mainGlobals "is_lot" = some (some (.ref f4))) (l4 : K.lookup f4 = some ⟨oc4, od4, .func (PySem.W.fnOf "is_lot" "is_lot" (defArgs s_is_lot) (defBody s_is_lot) (defScope s_is_lot) .none kV4 dc4 pm4 an4 cd4 ct4), sl4⟩) (c4 : PySem.W.codeIn K cd4 "is_lot" = true) (k4 : PySem.W.keepIn K (.ref f4) = true)
  (a5 : PySem.W.nsIn K mainGlobals "is_order" = some (some (.ref f5))) (l5 : K.lookup f5 = some ⟨oc5, od5, .func (PySem.W.fnOf "is_order" "is_order" (defArgs s_is_order) (defBody s_is_order) (defScope s_is_order) .none kV5 dc5 pm5 an5 cd5 ct5), sl5⟩) (c5 : PySem.W.codeIn K cd5 "is_order" = true) (k5 : PySem.W.keepIn K (.ref f5) = true)
  (a6 : PySem.W.nsIn K mainGlobals "all_orders" = some (some (.ref f6))) (l6 : K.lookup f6 = some ⟨oc6, od6, .func (PySem.W.fnOf "all_orders" "all_orders" (defArgs s_all_orders) (defBody s_all_orders) (defScope s_all_orders) .none kV6 dc6 pm6 an6 cd6 ct6), sl6⟩) (c6 : PySem.W.codeIn K cd6 "all_orders" = true) (k6 : PySem.W.keepIn K (.ref f6) = true)
  (a7 : PySem.W.nsIn K mainGlobals "are_stages" = some (some (.ref f7))) (l7 : K.lookup f7 = some ⟨oc7, od7, .func (PySem.W.fnOf "are_stages" "are_stages" (defArgs s_are_stages) (defBody s_are_stages) (defScope s_are_stages) .none kV7 dc7 pm7 an7 cd7 ct7), sl7⟩) (c7 : PySem.W.codeIn K cd7 "are_stages" = true) (k7 : PySem.W.keepIn K (.ref f7) = true)
  (a8 : PySem.W.nsIn K mainGlobals "check_stages" = some (some (.ref f8))) (l8 : K.lookup f8 = some ⟨oc8, od8, .func (PySem.W.fnOf "check_stages" "check_stages" (defArgs s_check_stages) (defBody s_check_stages) (defScope s_check_stages) .none kV8 dc8 pm8 an8 cd8 ct8), sl8⟩) (c8 : PySem.W.codeIn K cd8 "check_stages" = true) (k8 : PySem.W.keepIn K (.ref f8) = true)
  (a9 : PySem.W.nsIn K mainGlobals "least_order" = some (some (.ref f9))) (l9 : K.lookup f9 = some ⟨oc9, od9, .func (PySem.W.fnOf "least_order" "least_order" (defArgs s_least_order) (defBody s_least_order) (defScope s_least_order) .none kV9 dc9 pm9 an9 cd9 ct9), sl9⟩) (c9 : PySem.W.codeIn K cd9 "least_order" = true) (k9 : PySem.W.keepIn K (.ref f9) = true)
  (a10 : PySem.W.nsIn K mainGlobals "keeps_needs" = some (some (.ref f10))) (l10 : K.lookup f10 = some ⟨oc10, od10, .func (PySem.W.fnOf "keeps_needs" "keeps_needs" (defArgs s_keeps_needs) (defBody s_keeps_needs) (defScope s_keeps_needs) .none kV10 dc10 pm10 an10 cd10 ct10), sl10⟩) (c10 : PySem.W.codeIn K cd10 "keeps_needs" = true) (k10 : PySem.W.keepIn K (.ref f10) = true)
  (a11 : PySem.W.nsIn K mainGlobals "check_ringless" = some (some (.ref f11))) (l11 : K.lookup f11 = some ⟨oc11, od11, .func (PySem.W.fnOf "check_ringless" "check_ringless" (defArgs s_check_ringless) (defBody s_check_ringless) (defScope s_check_ringless) .none kV11 dc11 pm11 an11 cd11 ct11), sl11⟩) (c11 : PySem.W.codeIn K cd11 "check_ringless" = true) (k11 : PySem.W.keepIn K (.ref f11) = true)
  (a12 : PySem.W.nsIn K mainGlobals "check_times" = some (some (.ref f12))) (l12 : K.lookup f12 = some ⟨oc12, od12, .func (PySem.W.fnOf "check_times" "check_times" (defArgs s_check_times) (defBody s_check_times) (defScope s_check_times) .none kV12 dc12 pm12 an12 cd12 ct12), sl12⟩) (c12 : PySem.W.codeIn K cd12 "check_times" = true) (k12 : PySem.W.keepIn K (.ref f12) = true)
  (a13 : PySem.W.nsIn K mainGlobals "raw_ends" = some (some (.ref f13))) (l13 : K.lookup f13 = some ⟨oc13, od13, .func (PySem.W.fnOf "raw_ends" "raw_ends" (defArgs s_raw_ends) (defBody s_raw_ends) (defScope s_raw_ends) .none kV13 dc13 pm13 an13 cd13 ct13), sl13⟩) (c13 : PySem.W.codeIn K cd13 "raw_ends" = true) (k13 : PySem.W.keepIn K (.ref f13) = true)
  (a14 : PySem.W.nsIn K mainGlobals "ends_of" = some (some (.ref f14))) (l14 : K.lookup f14 = some ⟨oc14, od14, .func (PySem.W.fnOf "ends_of" "ends_of" (defArgs s_ends_of) (defBody s_ends_of) (defScope s_ends_of) .none kV14 dc14 pm14 an14 cd14 ct14), sl14⟩) (c14 : PySem.W.codeIn K cd14 "ends_of" = true) (k14 : PySem.W.keepIn K (.ref f14) = true)
  (a15 : PySem.W.nsIn K mainGlobals "check_hands" = some (some (.ref f15))) (l15 : K.lookup f15 = some ⟨oc15, od15, .func (PySem.W.fnOf "check_hands" "check_hands" (defArgs s_check_hands) (defBody s_check_hands) (defScope s_check_hands) .none kV15 dc15 pm15 an15 cd15 ct15), sl15⟩) (c15 : PySem.W.codeIn K cd15 "check_hands" = true) (k15 : PySem.W.keepIn K (.ref f15) = true)
  (a16 : PySem.W.nsIn K mainGlobals "worked_at" = some (some (.ref f16))) (l16 : K.lookup f16 = some ⟨oc16, od16, .func (PySem.W.fnOf "worked_at" "worked_at" (defArgs s_worked_at) (defBody s_worked_at) (defScope s_worked_at) .none kV16 dc16 pm16 an16 cd16 ct16), sl16⟩) (c16 : PySem.W.codeIn K cd16 "worked_at" = true) (k16 : PySem.W.keepIn K (.ref f16) = true)
  (a17 : PySem.W.nsIn K mainGlobals "is_let" = some (some (.ref f17))) (l17 : K.lookup f17 = some ⟨oc17, od17, .func (PySem.W.fnOf "is_let" "is_let" (defArgs s_is_let) (defBody s_is_let) (defScope s_is_let) .none kV17 dc17 pm17 an17 cd17 ct17), sl17⟩) (c17 : PySem.W.codeIn K cd17 "is_let" = true) (k17 : PySem.W.keepIn K (.ref f17) = true)
  (a18 : PySem.W.nsIn K mainGlobals "is_plan_for" = some (some (.ref f18))) (l18 : K.lookup f18 = some ⟨oc18, od18, .func (PySem.W.fnOf "is_plan_for" "is_plan_for" (defArgs s_is_plan_for) (defBody s_is_plan_for) (defScope s_is_plan_for) .none kV18 dc18 pm18 an18 cd18 ct18), sl18⟩) (c18 : PySem.W.codeIn K cd18 "is_plan_for" = true) (k18 : PySem.W.keepIn K (.ref f18) = true)
  (a19 : PySem.W.nsIn K mainGlobals "is_plan" = some (some (.ref f19))) (l19 : K.lookup f19 = some ⟨oc19, od19, .func (PySem.W.fnOf "is_plan" "is_plan" (defArgs s_is_plan) (defBody s_is_plan) (defScope s_is_plan) .none kV19 dc19 pm19 an19 cd19 ct19), sl19⟩) (c19 : PySem.W.codeIn K cd19 "is_plan" = true) (k19 : PySem.W.keepIn K (.ref f19) = true)
  (a20 : PySem.W.nsIn K mainGlobals "raw_in_turn" = some (some (.ref f20))) (l20 : K.lookup f20 = some ⟨oc20, od20, .func (PySem.W.fnOf "raw_in_turn" "raw_in_turn" (defArgs s_raw_in_turn) (defBody s_raw_in_turn) (defScope s_raw_in_turn) .none kV20 dc20 pm20 an20 cd20 ct20), sl20⟩) (c20 : PySem.W.codeIn K cd20 "raw_in_turn" = true) (k20 : PySem.W.keepIn K (.ref f20) = true)
  (a21 : PySem.W.nsIn K mainGlobals "in_turn" = some (some (.ref f21))) (l21 : K.lookup f21 = some ⟨oc21, od21, .func (PySem.W.fnOf "in_turn" "in_turn" (defArgs s_in_turn) (defBody s_in_turn) (defScope s_in_turn) .none kV21 dc21 pm21 an21 cd21 ct21), sl21⟩) (c21 : PySem.W.codeIn K cd21 "in_turn" = true) (k21 : PySem.W.keepIn K (.ref f21) = true)
  (a22 : PySem.W.nsIn K mainGlobals "end_of" = some (some (.ref f22))) (l22 : K.lookup f22 = some ⟨oc22, od22, .func (PySem.W.fnOf "end_of" "end_of" (defArgs s_end_of) (defBody s_end_of) (defScope s_end_of) .none kV22 dc22 pm22 an22 cd22 ct22), sl22⟩) (c22 : PySem.W.codeIn K cd22 "end_of" = true) (k22 : PySem.W.keepIn K (.ref f22) = true)
  (a23 : PySem.W.nsIn K mainGlobals "raw_least_time" = some (some (.ref f23))) (l23 : K.lookup f23 = some ⟨oc23, od23, .func (PySem.W.fnOf "raw_least_time" "raw_least_time" (defArgs s_raw_least_time) (defBody s_raw_least_time) (defScope s_raw_least_time) .none kV23 dc23 pm23 an23 cd23 ct23), sl23⟩) (c23 : PySem.W.codeIn K cd23 "raw_least_time" = true) (k23 : PySem.W.keepIn K (.ref f23) = true)
  (a24 : PySem.W.nsIn K mainGlobals "least_time" = some (some (.ref f24))) (l24 : K.lookup f24 = some ⟨oc24, od24, .func (PySem.W.fnOf "least_time" "least_time" (defArgs s_least_time) (defBody s_least_time) (defScope s_least_time) .none kV24 dc24 pm24 an24 cd24 ct24), sl24⟩) (c24 : PySem.W.codeIn K cd24 "least_time" = true) (k24 : PySem.W.keepIn K (.ref f24) = true)
  (a25 : PySem.W.nsIn K mainGlobals "is_least_time" = some (some (.ref f25))) (l25 : K.lookup f25 = some ⟨oc25, od25, .func (PySem.W.fnOf "is_least_time" "is_least_time" (defArgs s_is_least_time) (defBody s_is_least_time) (defScope s_is_least_time) .none kV25 dc25 pm25 an25 cd25 ct25), sl25⟩) (c25 : PySem.W.codeIn K cd25 "is_least_time" = true) (k25 : PySem.W.keepIn K (.ref f25) = true)
  (a26 : PySem.W.nsIn K mainGlobals "_law_hand" = some (some (.ref f26))) (l26 : K.lookup f26 = some ⟨oc26, od26, .func (PySem.W.fnOf "_law_hand" "_law_hand" (defArgs s__law_hand) (defBody s__law_hand) (defScope s__law_hand) .none kV26 dc26 pm26 an26 cd26 ct26), sl26⟩) (c26 : PySem.W.codeIn K cd26 "_law_hand" = true) (k26 : PySem.W.keepIn K (.ref f26) = true)
  (a27 : PySem.W.nsIn K mainGlobals "_law_draw" = some (some (.ref f27))) (l27 : K.lookup f27 = some ⟨oc27, od27, .func (PySem.W.fnOf "_law_draw" "_law_draw" (defArgs s__law_draw) (defBody s__law_draw) (defScope s__law_draw) .none kV27 dc27 pm27 an27 cd27 ct27), sl27⟩) (c27 : PySem.W.codeIn K cd27 "_law_draw" = true) (k27 : PySem.W.keepIn K (.ref f27) = true)
  (a28 : PySem.W.nsIn K mainGlobals "_law_any" = some (some (.ref f28))) (l28 : K.lookup f28 = some ⟨oc28, od28, .func (PySem.W.fnOf "_law_any" "_law_any" (defArgs s__law_any) (defBody s__law_any) (defScope s__law_any) .none kV28 dc28 pm28 an28 cd28 ct28), sl28⟩) (c28 : PySem.W.codeIn K cd28 "_law_any" = true) (k28 : PySem.W.keepIn K (.ref f28) = true)
  (a29 : PySem.W.nsIn K mainGlobals "_law_mixed" = some (some (.ref f29))) (l29 : K.lookup f29 = some ⟨oc29, od29, .func (PySem.W.fnOf "_law_mixed" "_law_mixed" (defArgs s__law_mixed) (defBody s__law_mixed) (defScope s__law_mixed) .none kV29 dc29 pm29 an29 cd29 ct29), sl29⟩) (c29 : PySem.W.codeIn K cd29 "_law_mixed" = true) (k29 : PySem.W.keepIn K (.ref f29) = true)
  (a30 : PySem.W.nsIn K mainGlobals "_law_same" = some (some (.ref f30))) (l30 : K.lookup f30 = some ⟨oc30, od30, .func (PySem.W.fnOf "_law_same" "_law_same" (defArgs s__law_same) (defBody s__law_same) (defScope s__law_same) .none kV30 dc30 pm30 an30 cd30 ct30), sl30⟩) (c30 : PySem.W.codeIn K cd30 "_law_same" = true) (k30 : PySem.W.keepIn K (.ref f30) = true)
  (a31 : PySem.W.nsIn K mainGlobals "_law_is_integer" = some (some (.ref f31))) (l31 : K.lookup f31 = some ⟨oc31, od31, .func (PySem.W.fnOf "_law_is_integer" "_law_is_integer" (defArgs s__law_is_integer) (defBody s__law_is_integer) (defScope s__law_is_integer) .none kV31 dc31 pm31 an31 cd31 ct31), sl31⟩) (c31 : PySem.W.codeIn K cd31 "_law_is_integer" = true) (k31 : PySem.W.keepIn K (.ref f31) = true)
  (a32 : PySem.W.nsIn K mainGlobals "_law_round_free" = some (some (.ref f32))) (l32 : K.lookup f32 = some ⟨oc32, od32, .func (PySem.W.fnOf "_law_round_free" "_law_round_free" (defArgs s__law_round_free) (defBody s__law_round_free) (defScope s__law_round_free) .none kV32 dc32 pm32 an32 cd32 ct32), sl32⟩) (c32 : PySem.W.codeIn K cd32 "_law_round_free" = true) (k32 : PySem.W.keepIn K (.ref f32) = true)
  (a33 : PySem.W.nsIn K mainGlobals "_law_times" = some (some (.ref f33))) (l33 : K.lookup f33 = some ⟨oc33, od33, .func (PySem.W.fnOf "_law_times" "_law_times" (defArgs s__law_times) (defBody s__law_times) (defScope s__law_times) .none kV33 dc33 pm33 an33 cd33 ct33), sl33⟩) (c33 : PySem.W.codeIn K cd33 "_law_times" = true) (k33 : PySem.W.keepIn K (.ref f33) = true)
  (a34 : PySem.W.nsIn K mainGlobals "_law_is_plan" = some (some (.ref f34))) (l34 : K.lookup f34 = some ⟨oc34, od34, .func (PySem.W.fnOf "_law_is_plan" "_law_is_plan" (defArgs s__law_is_plan) (defBody s__law_is_plan) (defScope s__law_is_plan) .none kV34 dc34 pm34 an34 cd34 ct34), sl34⟩) (c34 : PySem.W.codeIn K cd34 "_law_is_plan" = true) (k34 : PySem.W.keepIn K (.ref f34) = true)
  (a35 : PySem.W.nsIn K mainGlobals "_law_fits" = some (some (.ref f35))) (l35 : K.lookup f35 = some ⟨oc35, od35, .func (PySem.W.fnOf "_law_fits" "_law_fits" (defArgs s__law_fits) (defBody s__law_fits) (defScope s__law_fits) .none kV35 dc35 pm35 an35 cd35 ct35), sl35⟩) (c35 : PySem.W.codeIn K cd35 "_law_fits" = true) (k35 : PySem.W.keepIn K (.ref f35) = true)
  (a36 : PySem.W.nsIn K mainGlobals "_law_in_turn" = some (some (.ref f36))) (l36 : K.lookup f36 = some ⟨oc36, od36, .func (PySem.W.fnOf "_law_in_turn" "_law_in_turn" (defArgs s__law_in_turn) (defBody s__law_in_turn) (defScope s__law_in_turn) .none kV36 dc36 pm36 an36 cd36 ct36), sl36⟩) (c36 : PySem.W.codeIn K cd36 "_law_in_turn" = true) (k36 : PySem.W.keepIn K (.ref f36) = true)
  (a37 : PySem.W.nsIn K mainGlobals "_law_end" = some (some (.ref f37))) (l37 : K.lookup f37 = some ⟨oc37, od37, .func (PySem.W.fnOf "_law_end" "_law_end" (defArgs s__law_end) (defBody s__law_end) (defScope s__law_end) .none kV37 dc37 pm37 an37 cd37 ct37), sl37⟩) (c37 : PySem.W.codeIn K cd37 "_law_end" = true) (k37 : PySem.W.keepIn K (.ref f37) = true)
  (a38 : PySem.W.nsIn K mainGlobals "_law_all_orders" = some (some (.ref f38))) (l38 : K.lookup f38 = some ⟨oc38, od38, .func (PySem.W.fnOf "_law_all_orders" "_law_all_orders" (defArgs s__law_all_orders) (defBody s__law_all_orders) (defScope s__law_all_orders) .none kV38 dc38 pm38 an38 cd38 ct38), sl38⟩) (c38 : PySem.W.codeIn K cd38 "_law_all_orders" = true) (k38 : PySem.W.keepIn K (.ref f38) = true)
  (a39 : PySem.W.nsIn K mainGlobals "_law_drawn_order" = some (some (.ref f39))) (l39 : K.lookup f39 = some ⟨oc39, od39, .func (PySem.W.fnOf "_law_drawn_order" "_law_drawn_order" (defArgs s__law_drawn_order) (defBody s__law_drawn_order) (defScope s__law_drawn_order) .none kV39 dc39 pm39 an39 cd39 ct39), sl39⟩) (c39 : PySem.W.codeIn K cd39 "_law_drawn_order" = true) (k39 : PySem.W.keepIn K (.ref f39) = true)
  (a40 : PySem.W.nsIn K mainGlobals "_law_bent" = some (some (.ref f40))) (l40 : K.lookup f40 = some ⟨oc40, od40, .func (PySem.W.fnOf "_law_bent" "_law_bent" (defArgs s__law_bent) (defBody s__law_bent) (defScope s__law_bent) .none kV40 dc40 pm40 an40 cd40 ct40), sl40⟩) (c40 : PySem.W.codeIn K cd40 "_law_bent" = true) (k40 : PySem.W.keepIn K (.ref f40) = true)
  (a41 : PySem.W.nsIn K mainGlobals "_law_are_plans_right" = some (some (.ref f41))) (l41 : K.lookup f41 = some ⟨oc41, od41, .func (PySem.W.fnOf "_law_are_plans_right" "_law_are_plans_right" (defArgs s__law_are_plans_right) (defBody s__law_are_plans_right) (defScope s__law_are_plans_right) .none kV41 dc41 pm41 an41 cd41 ct41), sl41⟩) (c41 : PySem.W.codeIn K cd41 "_law_are_plans_right" = true) (k41 : PySem.W.keepIn K (.ref f41) = true)
  (a42 : PySem.W.nsIn K mainGlobals "_law_is_least_right" = some (some (.ref f42))) (l42 : K.lookup f42 = some ⟨oc42, od42, .func (PySem.W.fnOf "_law_is_least_right" "_law_is_least_right" (defArgs s__law_is_least_right) (defBody s__law_is_least_right) (defScope s__law_is_least_right) .none kV42 dc42 pm42 an42 cd42 ct42), sl42⟩) (c42 : PySem.W.codeIn K cd42 "_law_is_least_right" = true) (k42 : PySem.W.keepIn K (.ref f42) = true)
  (a43 : PySem.W.nsIn K mainGlobals "law" = some (some (.ref f43))) (l43 : K.lookup f43 = some ⟨oc43, od43, .func (PySem.W.fnOf "law" "law" (defArgs s_law) (defBody s_law) (defScope s_law) .none kV43 dc43 pm43 an43 cd43 ct43), sl43⟩) (c43 : PySem.W.codeIn K cd43 "law" = true) (k43 : PySem.W.keepIn K (.ref f43) = true)
  (q0 : PySem.W.nsIn K mainGlobals "MOST_STAGES" = some (some (.int 10 t0)))
  (q1 : PySem.W.nsIn K mainGlobals "MOST_TIME" = some (some (.int 100 t1)))
  (q2 : PySem.W.nsIn K mainGlobals "MOST_HANDS" = some (some (.int 4 t2)))
  (q3 : PySem.W.nsIn K mainGlobals "MOST_PLANNED" = some (some (.int 6 t3)))
  (z0 : PySem.W.nsIn K mainGlobals "abs" = some none)
  (z1 : PySem.W.nsIn K mainGlobals "all" = some none)
  (z2 : PySem.W.nsIn K mainGlobals "any" = some none)
  (z3 : PySem.W.nsIn K mainGlobals "bool" = some none)
  (z4 : PySem.W.nsIn K mainGlobals "dict" = some none)
  (z5 : PySem.W.nsIn K mainGlobals "enumerate" = some none)
  (z6 : PySem.W.nsIn K mainGlobals "int" = some none)
  (z7 : PySem.W.nsIn K mainGlobals "isinstance" = some none)
  (z8 : PySem.W.nsIn K mainGlobals "len" = some none)
  (z9 : PySem.W.nsIn K mainGlobals "list" = some none)
  (z10 : PySem.W.nsIn K mainGlobals "max" = some none)
  (z11 : PySem.W.nsIn K mainGlobals "min" = some none)
  (z12 : PySem.W.nsIn K mainGlobals "range" = some none)
  (z13 : PySem.W.nsIn K mainGlobals "repr" = some none)
  (z14 : PySem.W.nsIn K mainGlobals "sorted" = some none)
  (z15 : PySem.W.nsIn K mainGlobals "str" = some none)
  (z16 : PySem.W.nsIn K mainGlobals "sum" = some none)
  (z17 : PySem.W.nsIn K mainGlobals "tuple" = some none)
  (z18 : PySem.W.nsIn K mainGlobals "zip" = some none)
  : ∃ fd : FuncData, (∀ (s : Shared) (v : Value), BindsTo s fd ⟨[v], []⟩ [("script", v)]) ∧ ∀ base : Heap, K.In base → base.Ns mainGlobals mg → FnG l.prog w K mg base CX0 20 fa fd ["script"] (spLaw K) := by
  have e := hfa.symm.trans (PySem.W.mg_of X G a43)
  cases e
  have F0 := fun_mk (st := s_is_integer) l0 c0 k0
  have b0 := F0.binds (ps := P_is_integer) fun _ _ _ _ _ _ us hl => match us, hl with | [_], _ => rfl
  have F1 := fun_mk (st := s_is_within) l1 c1 k1
  have b1 := F1.binds (ps := P_is_within) fun _ _ _ _ _ _ us hl => match us, hl with | [_, _, _], _ => rfl
  have F2 := fun_mk (st := s_is_sized) l2 c2 k2
  have b2 := F2.binds (ps := P_is_sized) fun _ _ _ _ _ _ us hl => match us, hl with | [_, _, _], _ => rfl
  have F3 := fun_mk (st := s_are_rising) l3 c3 k3
  have b3 := F3.binds (ps := P_are_rising) fun _ _ _ _ _ _ us hl => match us, hl with | [_], _ => rfl
  have F4 := fun_mk (st := s_is_lot) l4 c4 k4
  have b4 := F4.binds (ps := P_is_lot) fun _ _ _ _ _ _ us hl => match us, hl with | [_, _], _ => rfl
  have F5 := fun_mk (st := s_is_order) l5 c5 k5
  have b5 := F5.binds (ps := P_is_order) fun _ _ _ _ _ _ us hl => match us, hl with | [_, _], _ => rfl
  have F6 := fun_mk (st := s_all_orders) l6 c6 k6
  have b6 := F6.binds (ps := P_all_orders) fun _ _ _ _ _ _ us hl => match us, hl with | [_], _ => rfl
  have F7 := fun_mk (st := s_are_stages) l7 c7 k7
  have b7 := F7.binds (ps := P_are_stages) fun _ _ _ _ _ _ us hl => match us, hl with | [_], _ => rfl
  have F8 := fun_mk (st := s_check_stages) l8 c8 k8
  have b8 := F8.binds (ps := P_check_stages) fun _ _ _ _ _ _ us hl => match us, hl with | [_], _ => rfl
  have F9 := fun_mk (st := s_least_order) l9 c9 k9
  have b9 := F9.binds (ps := P_least_order) fun _ _ _ _ _ _ us hl => match us, hl with | [_], _ => rfl
  have F10 := fun_mk (st := s_keeps_needs) l10 c10 k10
  have b10 := F10.binds (ps := P_keeps_needs) fun _ _ _ _ _ _ us hl => match us, hl with | [_, _], _ => rfl
  have F11 := fun_mk (st := s_check_ringless) l11 c11 k11
  have b11 := F11.binds (ps := P_check_ringless) fun _ _ _ _ _ _ us hl => match us, hl with | [_], _ => rfl
  have F12 := fun_mk (st := s_check_times) l12 c12 k12
  have b12 := F12.binds (ps := P_check_times) fun _ _ _ _ _ _ us hl => match us, hl with | [_, _], _ => rfl
  have F13 := fun_mk (st := s_raw_ends) l13 c13 k13
  have b13 := F13.binds (ps := P_raw_ends) fun _ _ _ _ _ _ us hl => match us, hl with | [_, _, _], _ => rfl
  have F14 := fun_mk (st := s_ends_of) l14 c14 k14
  have b14 := F14.binds (ps := P_ends_of) fun _ _ _ _ _ _ us hl => match us, hl with | [_, _], _ => rfl
  have F15 := fun_mk (st := s_check_hands) l15 c15 k15
  have b15 := F15.binds (ps := P_check_hands) fun _ _ _ _ _ _ us hl => match us, hl with | [_, _, _], _ => rfl
  have F16 := fun_mk (st := s_worked_at) l16 c16 k16
  have b16 := F16.binds (ps := P_worked_at) fun _ _ _ _ _ _ us hl => match us, hl with | [_, _, _], _ => rfl
  have F17 := fun_mk (st := s_is_let) l17 c17 k17
  have b17 := F17.binds (ps := P_is_let) fun _ _ _ _ _ _ us hl => match us, hl with | [_, _, _], _ => rfl
  have F18 := fun_mk (st := s_is_plan_for) l18 c18 k18
  have b18 := F18.binds (ps := P_is_plan_for) fun _ _ _ _ _ _ us hl => match us, hl with | [_, _, _, _], _ => rfl
  have F19 := fun_mk (st := s_is_plan) l19 c19 k19
  have b19 := F19.binds (ps := P_is_plan) fun _ _ _ _ _ _ us hl => match us, hl with | [_, _, _, _], _ => rfl
  have F20 := fun_mk (st := s_raw_in_turn) l20 c20 k20
  have b20 := F20.binds (ps := P_raw_in_turn) fun _ _ _ _ _ _ us hl => match us, hl with | [_, _, _, _], _ => rfl
  have F21 := fun_mk (st := s_in_turn) l21 c21 k21
  have b21 := F21.binds (ps := P_in_turn) fun _ _ _ _ _ _ us hl => match us, hl with | [_, _, _, _], _ => rfl
  have F22 := fun_mk (st := s_end_of) l22 c22 k22
  have b22 := F22.binds (ps := P_end_of) fun _ _ _ _ _ _ us hl => match us, hl with | [_, _], _ => rfl
  have F23 := fun_mk (st := s_raw_least_time) l23 c23 k23
  have b23 := F23.binds (ps := P_raw_least_time) fun _ _ _ _ _ _ us hl => match us, hl with | [_, _, _], _ => rfl
  have F24 := fun_mk (st := s_least_time) l24 c24 k24
  have b24 := F24.binds (ps := P_least_time) fun _ _ _ _ _ _ us hl => match us, hl with | [_, _, _], _ => rfl
  have F25 := fun_mk (st := s_is_least_time) l25 c25 k25
  have b25 := F25.binds (ps := P_is_least_time) fun _ _ _ _ _ _ us hl => match us, hl with | [_, _, _, _], _ => rfl
  have F26 := fun_mk (st := s__law_hand) l26 c26 k26
  have b26 := F26.binds (ps := P__law_hand) fun _ _ _ _ _ _ us hl => match us, hl with | [_], _ => rfl
  have F27 := fun_mk (st := s__law_draw) l27 c27 k27
  have b27 := F27.binds (ps := P__law_draw) fun _ _ _ _ _ _ us hl => match us, hl with | [_, _], _ => rfl
  have F28 := fun_mk (st := s__law_any) l28 c28 k28
  have b28 := F28.binds (ps := P__law_any) fun _ _ _ _ _ _ us hl => match us, hl with | [_, _], _ => rfl
  have F29 := fun_mk (st := s__law_mixed) l29 c29 k29
  have b29 := F29.binds (ps := P__law_mixed) fun _ _ _ _ _ _ us hl => match us, hl with | [_, _], _ => rfl
  have F30 := fun_mk (st := s__law_same) l30 c30 k30
  have b30 := F30.binds (ps := P__law_same) fun _ _ _ _ _ _ us hl => match us, hl with | [_, _], _ => rfl
  have F31 := fun_mk (st := s__law_is_integer) l31 c31 k31
  have b31 := F31.binds (ps := P__law_is_integer) fun _ _ _ _ _ _ us hl => match us, hl with | [_], _ => rfl
  have F32 := fun_mk (st := s__law_round_free) l32 c32 k32
  have b32 := F32.binds (ps := P__law_round_free) fun _ _ _ _ _ _ us hl => match us, hl with | [_, _], _ => rfl
  have F33 := fun_mk (st := s__law_times) l33 c33 k33
  have b33 := F33.binds (ps := P__law_times) fun _ _ _ _ _ _ us hl => match us, hl with | [_, _], _ => rfl
  have F34 := fun_mk (st := s__law_is_plan) l34 c34 k34
  have b34 := F34.binds (ps := P__law_is_plan) fun _ _ _ _ _ _ us hl => match us, hl with | [_, _, _, _], _ => rfl
  have F35 := fun_mk (st := s__law_fits) l35 c35 k35
  have b35 := F35.binds (ps := P__law_fits) fun _ _ _ _ _ _ us hl => match us, hl with | [_, _, _, _, _], _ => rfl
  have F36 := fun_mk (st := s__law_in_turn) l36 c36 k36
  have b36 := F36.binds (ps := P__law_in_turn) fun _ _ _ _ _ _ us hl => match us, hl with | [_, _, _, _], _ => rfl
  have F37 := fun_mk (st := s__law_end) l37 c37 k37
  have b37 := F37.binds (ps := P__law_end) fun _ _ _ _ _ _ us hl => match us, hl with | [_, _], _ => rfl
  have F38 := fun_mk (st := s__law_all_orders) l38 c38 k38
  have b38 := F38.binds (ps := P__law_all_orders) fun _ _ _ _ _ _ us hl => match us, hl with | [_], _ => rfl
  have F39 := fun_mk (st := s__law_drawn_order) l39 c39 k39
  have b39 := F39.binds (ps := P__law_drawn_order) fun _ _ _ _ _ _ us hl => match us, hl with | [_, _], _ => rfl
  have F40 := fun_mk (st := s__law_bent) l40 c40 k40
  have b40 := F40.binds (ps := P__law_bent) fun _ _ _ _ _ _ us hl => match us, hl with | [_, _], _ => rfl
  have F41 := fun_mk (st := s__law_are_plans_right) l41 c41 k41
  have b41 := F41.binds (ps := P__law_are_plans_right) fun _ _ _ _ _ _ us hl => match us, hl with | [_, _, _, _], _ => rfl
  have F42 := fun_mk (st := s__law_is_least_right) l42 c42 k42
  have b42 := F42.binds (ps := P__law_is_least_right) fun _ _ _ _ _ _ us hl => match us, hl with | [_, _, _, _, _], _ => rfl
  have F43 := fun_mk (st := s_law) l43 c43 k43
  have b43 := F43.binds (ps := P_law) fun _ _ _ _ _ _ us hl => match us, hl with | [_], _ => rfl
  let T : Txt K mg := {
    f_is_integer := f0, d_is_integer := _, F_is_integer := F0, b_is_integer := b0, g_is_integer := PySem.W.mg_of X G a0,
    f_is_within := f1, d_is_within := _, F_is_within := F1, b_is_within := b1, g_is_within := PySem.W.mg_of X G a1,
    f_is_sized := f2, d_is_sized := _, F_is_sized := F2, b_is_sized := b2, g_is_sized := PySem.W.mg_of X G a2,
    f_are_rising := f3, d_are_rising := _, F_are_rising := F3, b_are_rising := b3, g_are_rising := PySem.W.mg_of X G a3,
    f_is_lot := f4, d_is_lot := _, F_is_lot := F4, b_is_lot := b4, g_is_lot := PySem.W.mg_of X G a4,
    f_is_order := f5, d_is_order := _, F_is_order := F5, b_is_order := b5, g_is_order := PySem.W.mg_of X G a5,
    f_all_orders := f6, d_all_orders := _, F_all_orders := F6, b_all_orders := b6, g_all_orders := PySem.W.mg_of X G a6,
    f_are_stages := f7, d_are_stages := _, F_are_stages := F7, b_are_stages := b7, g_are_stages := PySem.W.mg_of X G a7,
    f_check_stages := f8, d_check_stages := _, F_check_stages := F8, b_check_stages := b8, g_check_stages := PySem.W.mg_of X G a8,
    f_least_order := f9, d_least_order := _, F_least_order := F9, b_least_order := b9, g_least_order := PySem.W.mg_of X G a9,
    f_keeps_needs := f10, d_keeps_needs := _, F_keeps_needs := F10, b_keeps_needs := b10, g_keeps_needs := PySem.W.mg_of X G a10,
    f_check_ringless := f11, d_check_ringless := _, F_check_ringless := F11, b_check_ringless := b11, g_check_ringless := PySem.W.mg_of X G a11,
    f_check_times := f12, d_check_times := _, F_check_times := F12, b_check_times := b12, g_check_times := PySem.W.mg_of X G a12,
    f_raw_ends := f13, d_raw_ends := _, F_raw_ends := F13, b_raw_ends := b13, g_raw_ends := PySem.W.mg_of X G a13,
    f_ends_of := f14, d_ends_of := _, F_ends_of := F14, b_ends_of := b14, g_ends_of := PySem.W.mg_of X G a14,
    f_check_hands := f15, d_check_hands := _, F_check_hands := F15, b_check_hands := b15, g_check_hands := PySem.W.mg_of X G a15,
    f_worked_at := f16, d_worked_at := _, F_worked_at := F16, b_worked_at := b16, g_worked_at := PySem.W.mg_of X G a16,
    f_is_let := f17, d_is_let := _, F_is_let := F17, b_is_let := b17, g_is_let := PySem.W.mg_of X G a17,
    f_is_plan_for := f18, d_is_plan_for := _, F_is_plan_for := F18, b_is_plan_for := b18, g_is_plan_for := PySem.W.mg_of X G a18,
    f_is_plan := f19, d_is_plan := _, F_is_plan := F19, b_is_plan := b19, g_is_plan := PySem.W.mg_of X G a19,
    f_raw_in_turn := f20, d_raw_in_turn := _, F_raw_in_turn := F20, b_raw_in_turn := b20, g_raw_in_turn := PySem.W.mg_of X G a20,
    f_in_turn := f21, d_in_turn := _, F_in_turn := F21, b_in_turn := b21, g_in_turn := PySem.W.mg_of X G a21,
    f_end_of := f22, d_end_of := _, F_end_of := F22, b_end_of := b22, g_end_of := PySem.W.mg_of X G a22,
    f_raw_least_time := f23, d_raw_least_time := _, F_raw_least_time := F23, b_raw_least_time := b23, g_raw_least_time := PySem.W.mg_of X G a23,
    f_least_time := f24, d_least_time := _, F_least_time := F24, b_least_time := b24, g_least_time := PySem.W.mg_of X G a24,
    f_is_least_time := f25, d_is_least_time := _, F_is_least_time := F25, b_is_least_time := b25, g_is_least_time := PySem.W.mg_of X G a25,
    f__law_hand := f26, d__law_hand := _, F__law_hand := F26, b__law_hand := b26, g__law_hand := PySem.W.mg_of X G a26,
    f__law_draw := f27, d__law_draw := _, F__law_draw := F27, b__law_draw := b27, g__law_draw := PySem.W.mg_of X G a27,
    f__law_any := f28, d__law_any := _, F__law_any := F28, b__law_any := b28, g__law_any := PySem.W.mg_of X G a28,
    f__law_mixed := f29, d__law_mixed := _, F__law_mixed := F29, b__law_mixed := b29, g__law_mixed := PySem.W.mg_of X G a29,
    f__law_same := f30, d__law_same := _, F__law_same := F30, b__law_same := b30, g__law_same := PySem.W.mg_of X G a30,
    f__law_is_integer := f31, d__law_is_integer := _, F__law_is_integer := F31, b__law_is_integer := b31, g__law_is_integer := PySem.W.mg_of X G a31,
    f__law_round_free := f32, d__law_round_free := _, F__law_round_free := F32, b__law_round_free := b32, g__law_round_free := PySem.W.mg_of X G a32,
    f__law_times := f33, d__law_times := _, F__law_times := F33, b__law_times := b33, g__law_times := PySem.W.mg_of X G a33,
    f__law_is_plan := f34, d__law_is_plan := _, F__law_is_plan := F34, b__law_is_plan := b34, g__law_is_plan := PySem.W.mg_of X G a34,
    f__law_fits := f35, d__law_fits := _, F__law_fits := F35, b__law_fits := b35, g__law_fits := PySem.W.mg_of X G a35,
    f__law_in_turn := f36, d__law_in_turn := _, F__law_in_turn := F36, b__law_in_turn := b36, g__law_in_turn := PySem.W.mg_of X G a36,
    f__law_end := f37, d__law_end := _, F__law_end := F37, b__law_end := b37, g__law_end := PySem.W.mg_of X G a37,
    f__law_all_orders := f38, d__law_all_orders := _, F__law_all_orders := F38, b__law_all_orders := b38, g__law_all_orders := PySem.W.mg_of X G a38,
    f__law_drawn_order := f39, d__law_drawn_order := _, F__law_drawn_order := F39, b__law_drawn_order := b39, g__law_drawn_order := PySem.W.mg_of X G a39,
    f__law_bent := f40, d__law_bent := _, F__law_bent := F40, b__law_bent := b40, g__law_bent := PySem.W.mg_of X G a40,
    f__law_are_plans_right := f41, d__law_are_plans_right := _, F__law_are_plans_right := F41, b__law_are_plans_right := b41, g__law_are_plans_right := PySem.W.mg_of X G a41,
    f__law_is_least_right := f42, d__law_is_least_right := _, F__law_is_least_right := F42, b__law_is_least_right := b42, g__law_is_least_right := PySem.W.mg_of X G a42,
    f_law := fa, d_law := _, F_law := F43, b_law := b43, g_law := PySem.W.mg_of X G a43,
    t_MOST_STAGES := t0, c_MOST_STAGES := PySem.W.mg_of X G q0,
    t_MOST_TIME := t1, c_MOST_TIME := PySem.W.mg_of X G q1,
    t_MOST_HANDS := t2, c_MOST_HANDS := PySem.W.mg_of X G q2,
    t_MOST_PLANNED := t3, c_MOST_PLANNED := PySem.W.mg_of X G q3,
    m_abs := PySem.W.mg_none_of X G z0,
    m_all := PySem.W.mg_none_of X G z1,
    m_any := PySem.W.mg_none_of X G z2,
    m_bool := PySem.W.mg_none_of X G z3,
    m_dict := PySem.W.mg_none_of X G z4,
    m_enumerate := PySem.W.mg_none_of X G z5,
    m_int := PySem.W.mg_none_of X G z6,
    m_isinstance := PySem.W.mg_none_of X G z7,
    m_len := PySem.W.mg_none_of X G z8,
    m_list := PySem.W.mg_none_of X G z9,
    m_max := PySem.W.mg_none_of X G z10,
    m_min := PySem.W.mg_none_of X G z11,
    m_range := PySem.W.mg_none_of X G z12,
    m_repr := PySem.W.mg_none_of X G z13,
    m_sorted := PySem.W.mg_none_of X G z14,
    m_str := PySem.W.mg_none_of X G z15,
    m_sum := PySem.W.mg_none_of X G z16,
    m_tuple := PySem.W.mg_none_of X G z17,
    m_zip := PySem.W.mg_none_of X G z18 }
  exact ⟨PySem.W.fnOf "law" "law" (defArgs s_law) (defBody s_law) (defScope s_law) .none kV43 dc43 pm43 an43 cd43 ct43, fun s v => .of_eq rfl, fun base _ _ => ok_law T⟩
theorem walk {l : PySem.W.OpenLaw} {q : Program} {loose : List Str} {XP : (Str → Option Value) → Heap → Prop} {YP : World → Heap → Prop} {d : DefRec} {K : Params → PySem.W.Frag} (hn : l.most = some 63) (hdf : d.params.defaults = [])
    (hY : ∀ (w : World) (h : Heap), YP w h → (K w.params).In h)
    (F : ∀ (w : World) (mg : Str → Option Value) (fa : Addr) (h : Heap), (K w.params).In h → h.Ns mainGlobals mg → mg d.name = some (.ref fa) →
      ∃ fd : FuncData, (∀ (s : Shared) (u : Value), BindsTo s fd ⟨[u], []⟩ [("script", u)]) ∧ ∀ base : Heap, (K w.params).In base → base.Ns mainGlobals mg → FnG l.prog w (K w.params) mg base CX0 20 fa fd ["script"] (spLaw (K w.params))) :
    PySem.W.WalkO q loose XP YP l.row.toRowW d [] (fun f vs => PySem.call f vs) :=
  PD.walk_g (n := 63) (k := 20) (x := "script") (CX := fun _ => CX0) (sp := fun w => spLaw (K w.params)) hn (by decide) hdf (PD.roomG_caller.mono (by decide)) hY F (fun _ _ a ns hl _ hS => ⟨a, ns, rfl, hS, hl, fun _ => rfl⟩) fun _ _ _ _ _ z => z
end Lw
open PySem PySem.W PyProof.Rows
set_option maxRecDepth 100000 in
set_option maxHeartbeats 0 in
theorem PySem.Challenge.cw_layerhouse_k84_whole_plans_of_hands_holds : PySem.Challenge.rw_layerhouse_k84_whole_plans_of_hands.Holds := by
  w_on; o_law; k_head; (case hw => w_witness2)
  k_fill
  refine Lw.walk (l := PySem.Challenge.rw_layerhouse_k84_whole_plans_of_hands) rfl rfl (fun w h Y => PySem.W.kIn_of Y) ?F
  case F =>
    intro w mg fa h KX G hmg
    refine' Lw.all_mk KX G hmg ?a0 ?l0 ?c0 ?k0 ?a1 ?l1 ?c1 ?k1 ?a2 ?l2 ?c2 ?k2 ?a3 ?l3 ?c3 ?k3 ?a4 ?l4 ?c4 ?k4 ?a5 ?l5 ?c5 ?k5 ?a6 ?l6 ?c6 ?k6 ?a7 ?l7 ?c7 ?k7 ?a8 ?l8 ?c8 ?k8 ?a9 ?l9 ?c9 ?k9 ?a10 ?l10 ?c10 ?k10 ?a11 ?l11 ?c11 ?k11 ?a12 ?l12 ?c12 ?k12 ?a13 ?l13 ?c13 ?k13 ?a14 ?l14 ?c14 ?k14 ?a15 ?l15 ?c15 ?k15 ?a16 ?l16 ?c16 ?k16 ?a17 ?l17 ?c17 ?k17 ?a18 ?l18 ?c18 ?k18 ?a19 ?l19 ?c19 ?k19 ?a20 ?l20 ?c20 ?k20 ?a21 ?l21 ?c21 ?k21 ?a22 ?l22 ?c22 ?k22 ?a23 ?l23 ?c23 ?k23 ?a24 ?l24 ?c24 ?k24 ?a25 ?l25 ?c25 ?k25 ?a26 ?l26 ?c26 ?k26 ?a27 ?l27 ?c27 ?k27 ?a28 ?l28 ?c28 ?k28 ?a29 ?l29 ?c29 ?k29 ?a30 ?l30 ?c30 ?k30 ?a31 ?l31 ?c31 ?k31 ?a32 ?l32 ?c32 ?k32 ?a33 ?l33 ?c33 ?k33 ?a34 ?l34 ?c34 ?k34 ?a35 ?l35 ?c35 ?k35 ?a36 ?l36 ?c36 ?k36 ?a37 ?l37 ?c37 ?k37 ?a38 ?l38 ?c38 ?k38 ?a39 ?l39 ?c39 ?k39 ?a40 ?l40 ?c40 ?k40 ?a41 ?l41 ?c41 ?k41 ?a42 ?l42 ?c42 ?k42 ?a43 ?l43 ?c43 ?k43 ?q0 ?q1 ?q2 ?q3 ?z0 ?z1 ?z2 ?z3 ?z4 ?z5 ?z6 ?z7 ?z8 ?z9 ?z10 ?z11 ?z12 ?z13 ?z14 ?z15 ?z16 ?z17 ?z18
    (case a0 => k_is)
    (case l0 => k_is)
    (case c0 => k_is)
    (case k0 => k_is)
    (case a1 => k_is)
    (case l1 => k_is)
    (case c1 => k_is)
    (case k1 => k_is)
    (case a2 => k_is)
    (case l2 => k_is)
    (case c2 => k_is)
    (case k2 => k_is)
    (case a3 => k_is)
    (case l3 => k_is)
    (case c3 => k_is)
    (case k3 => k_is)
    (case a4 => k_is)
    (case l4 => k_is)
    (case c4 => k_is)
    (case k4 => k_is)
    (case a5 => k_is)
    (case l5 => k_is)
    (case c5 => k_is)
    (case k5 => k_is)
    (case a6 => k_is)
    (case l6 => k_is)
    (case c6 => k_is)
    (case k6 => k_is)
    (case a7 => k_is)
    (case l7 => k_is)
    (case c7 => k_is)
    (case k7 => k_is)
    (case a8 => k_is)
    (case l8 => k_is)
    (case c8 => k_is)
    (case k8 => k_is)
    (case a9 => k_is)
    (case l9 => k_is)
    (case c9 => k_is)
    (case k9 => k_is)
    (case a10 => k_is)
    (case l10 => k_is)
    (case c10 => k_is)
    (case k10 => k_is)
    (case a11 => k_is)
    (case l11 => k_is)
    (case c11 => k_is)
    (case k11 => k_is)
    (case a12 => k_is)
    (case l12 => k_is)
    (case c12 => k_is)
    (case k12 => k_is)
    (case a13 => k_is)
    (case l13 => k_is)
    (case c13 => k_is)
    (case k13 => k_is)
    (case a14 => k_is)
    (case l14 => k_is)
    (case c14 => k_is)
    (case k14 => k_is)
    (case a15 => k_is)
    (case l15 => k_is)
    (case c15 => k_is)
    (case k15 => k_is)
    (case a16 => k_is)
    (case l16 => k_is)
    (case c16 => k_is)
    (case k16 => k_is)
    (case a17 => k_is)
    (case l17 => k_is)
    (case c17 => k_is)
    (case k17 => k_is)
    (case a18 => k_is)
    (case l18 => k_is)
    (case c18 => k_is)
    (case k18 => k_is)
    (case a19 => k_is)
    (case l19 => k_is)
    (case c19 => k_is)
    (case k19 => k_is)
    (case a20 => k_is)
    (case l20 => k_is)
    (case c20 => k_is)
    (case k20 => k_is)
    (case a21 => k_is)
    (case l21 => k_is)
    (case c21 => k_is)
    (case k21 => k_is)
    (case a22 => k_is)
    (case l22 => k_is)
    (case c22 => k_is)
    (case k22 => k_is)
    (case a23 => k_is)
    (case l23 => k_is)
    (case c23 => k_is)
    (case k23 => k_is)
    (case a24 => k_is)
    (case l24 => k_is)
    (case c24 => k_is)
    (case k24 => k_is)
    (case a25 => k_is)
    (case l25 => k_is)
    (case c25 => k_is)
    (case k25 => k_is)
    (case a26 => k_is)
    (case l26 => k_is)
    (case c26 => k_is)
    (case k26 => k_is)
    (case a27 => k_is)
    (case l27 => k_is)
    (case c27 => k_is)
    (case k27 => k_is)
    (case a28 => k_is)
    (case l28 => k_is)
    (case c28 => k_is)
    (case k28 => k_is)
    (case a29 => k_is)
    (case l29 => k_is)
    (case c29 => k_is)
    (case k29 => k_is)
    (case a30 => k_is)
    (case l30 => k_is)
    (case c30 => k_is)
    (case k30 => k_is)
    (case a31 => k_is)
    (case l31 => k_is)
    (case c31 => k_is)
    (case k31 => k_is)
    (case a32 => k_is)
    (case l32 => k_is)
    (case c32 => k_is)
    (case k32 => k_is)
    (case a33 => k_is)
    (case l33 => k_is)
    (case c33 => k_is)
    (case k33 => k_is)
    (case a34 => k_is)
    (case l34 => k_is)
    (case c34 => k_is)
    (case k34 => k_is)
    (case a35 => k_is)
    (case l35 => k_is)
    (case c35 => k_is)
    (case k35 => k_is)
    (case a36 => k_is)
    (case l36 => k_is)
    (case c36 => k_is)
    (case k36 => k_is)
    (case a37 => k_is)
    (case l37 => k_is)
    (case c37 => k_is)
    (case k37 => k_is)
    (case a38 => k_is)
    (case l38 => k_is)
    (case c38 => k_is)
    (case k38 => k_is)
    (case a39 => k_is)
    (case l39 => k_is)
    (case c39 => k_is)
    (case k39 => k_is)
    (case a40 => k_is)
    (case l40 => k_is)
    (case c40 => k_is)
    (case k40 => k_is)
    (case a41 => k_is)
    (case l41 => k_is)
    (case c41 => k_is)
    (case k41 => k_is)
    (case a42 => k_is)
    (case l42 => k_is)
    (case c42 => k_is)
    (case k42 => k_is)
    (case a43 => k_is)
    (case l43 => k_is)
    (case c43 => k_is)
    (case k43 => k_is)
    (case q0 => k_is)
    (case q1 => k_is)
    (case q2 => k_is)
    (case q3 => k_is)
    (case z0 => k_is)
    (case z1 => k_is)
    (case z2 => k_is)
    (case z3 => k_is)
    (case z4 => k_is)
    (case z5 => k_is)
    (case z6 => k_is)
    (case z7 => k_is)
    (case z8 => k_is)
    (case z9 => k_is)
    (case z10 => k_is)
    (case z11 => k_is)
    (case z12 => k_is)
    (case z13 => k_is)
    (case z14 => k_is)
    (case z15 => k_is)
    (case z16 => k_is)
    (case z17 => k_is)
    (case z18 => k_is)
end
