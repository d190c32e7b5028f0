import PyProof.Rows.All
import HandS.ForMost
import HandS.Words
import HandS.Codes
import HandS.Ends
import HandS.Zip
import HandS.TupAny
import HandS.TupMul
import HandS.ListItems
import HandS.Lambda
import HandS.Flow
import KE.DataEq
import KE.DataIsa
import KE.DataAny
import KE.DataMinMax
import KE.DataFind
import KE.SortData
import KE.LtData
import HandS.Wide
import HandS.Deep
import HandS.Style
import HandS.SortInts
import KE.KTupSum
import HandS.Iter
import HandS.Comp
import HandS.TryOnly
import KE.GoesEnum
import HandS.Small
import HandS.Conv
import KE.KRevSl
import PyProof.ReprRoads
import PyProof.CallFns
import KE.KDictZip
import HandS.DictComp
import KE.GoesMore
import KE.DatumOrd
import HandS.EndTab
import HandS.SortKw
import KE.SortKeyHeap
import HandS.IsInst
import PyProof.StrOps2
import KE.KDictPairs
import KE.KDictSum
import PyProof.DictUpdate
import HandS.ExcValue
import PySem.Challenge.RW_layerhouse_k14_whole_one_layer_behind_an
import Wide.All
import OpenK.AllK
import Wide.FinOn
section
set_option Elab.async false
set_option linter.all false
set_option maxRecDepth 100000
set_option maxHeartbeats 4000000
/-! PDG: promises of defs where it is known that no repr is under way (the guards of the place are told). -/
namespace PD
open PySem PySem.Spec PyProof.Rows L2

structure RoomG (k : Nat) (A : Around) : Prop where
  r : Room k A
  g : A.guards = some []
theorem RoomG.mono {j k : Nat} {A : Around} (h : RoomG k A) (l : j ≤ k) : RoomG j A := ⟨h.r.mono l, h.g⟩
theorem RoomG.down {k : Nat} {A : Around} (h : RoomG (k + 1) A) (env : Env) : RoomG k (A.deeper env) := ⟨h.r.deeper env, h.g⟩
structure FnG (P : Program) (w : World) (K : PySem.W.Frag) (mg : Str → Option Value) (base : Heap) (CX : CXT) (k : Nat) (f : Addr) (fd : FuncData) (ps : List Str) (sp : Sp) : Prop where
  ln : ∀ xs H Q E, sp xs H Q E → xs.length = ps.length
  go : ∀ (A : Around) (up : List Env) (s : Shared) (H : Hp) (g : Args) (us : List Value) (xs : List V) (Q : VK) (E : XK), RoomG k A → Env0 P w K mg base A up s H → BindsTo s fd g (ps.zip us) → Vals xs us → sp xs H Q E →
    codeAny (model P w) A (.call (.ref f) g) (CR CX up P w H s Q E) s
section
variable {P : Program} {w : World} {K : PySem.W.Frag} {mg : Str → Option Value} {base : Heap} {CX : CXT} {f : Addr} {fd : FuncData} {ps : List Str} {sp : Sp}
theorem FnG.mono {j k : Nat} (F : FnG P w K mg base CX j f fd ps sp) (l : j ≤ k) : FnG P w K mg base CX k f fd ps sp := ⟨F.ln, fun A up s H g us xs Q E h => F.go A up s H g us xs Q E (h.mono l)⟩
theorem FnG.imp {k : Nat} {sp' : Sp} (F : FnG P w K mg base CX k f fd ps sp) (l : ∀ xs H Q E, sp' xs H Q E → sp xs H Q E) : FnG P w K mg base CX k f fd ps sp' :=
  ⟨fun xs H Q E q => F.ln _ _ _ _ (l _ _ _ _ q), fun A up s H g us xs Q E h e b r q => F.go A up s H g us xs Q E h e b r (l _ _ _ _ q)⟩
end
section
variable {X : Cx} {CX : CXT} {k : Nat} {f : Addr} {fd : FuncData} {ps : List Str} {sp : Sp} {us0 : List V} {ws : List Value} {E : XK} {x : Str} {p pos : Pos} {e : Expr} {es : List Expr} {t : TA}
/-- the called def's run -/
theorem run_g {pins : List (Addr × Obj)} {σ : L2.St} {H : Hp} {s : Shared} {Q : VK} {us : List Value} {xs : List V} (F : FnG X.prog X.w X.K X.mg X.base CX k f fd ps sp) (hr : RoomG k X.A) (hb : Binds X.K fd ps ws) (hd : Vals us0 ws) (hx : Passes CX X E)
    (I : Inv X pins σ H s) (r : Vals xs us) (q : sp (xs ++ us0) H Q E) : wpAny (model X.prog X.w) X.A (call (.ref f) us) (EP X pins σ Q) X.xe s := by
  have rv := r.append hd
  have ln : (us ++ ws).length = ps.length := rv.length.symm.trans (F.ln _ _ _ _ q)
  refine wpAny_call (codeAny_mono (F.go X.A X.stack s H ⟨us, []⟩ (us ++ ws) (xs ++ us0) Q E hr I.env0 (hb s us I.kIn ln) rv q) fun z s2 hz => ?_)
  match z, hz with
  | .error e, hz => exact hx pins σ H s e s2 I hz
  | .ok (.ret u), hz => exact I.after hz
theorem pe_callG (F : FnG X.prog X.w X.K X.mg X.base CX k f fd ps sp) (hr : RoomG k X.A) (hg : Gl X x) (hm : X.mg x = some (.ref f)) (hk : PySem.W.keepIn X.K (.ref f) = true) (hb : Binds X.K fd ps ws) (hd : Vals us0 ws) (hx : Passes CX X E)
    (ha : PA X (e :: es) t) (hdb : (x == ("__debug__" : Str)) = false := by decide) (he : starEach (e :: es) X.env = (false, eval e X.env) :: starEach es X.env := by rfl) (hpl : (backTo pos (starEach es X.env)).any (·.1) = false := by rfl) :
    PE X (.Call (.Name x p) (e :: es) [] pos) (tCall sp us0 E t) :=
  ⟨fun pins s σ H Q I q => wpAny_Call_Name_kw (ld_glob I hg hm (PySem.W.callWith_K (h₀ := X.base) I.ok.mod.kin hk (thn (ha.run pos pins s σ H _ I q) fun us s1 ⟨_, _, I1, r1, q1⟩ => ⟨I1.kIn, run_g F hr hb hd hx I1 r1 q1⟩) he hpl) hdb)⟩
end
section
variable {P : Program} {w : World} {K : PySem.W.Frag} {mg : Str → Option Value} {base : Heap}
/-- a def, by its body -/
theorem Fun.okG {CX : CXT} {x qual : Str} {st : Stmt} {f : Addr} {fd : FuncData} {N ps : List Str} {k : Nat} {sp : Sp} (F : L2.Fun K x qual st f fd) (S : FnScope N ps (defScope st)) (ln : ∀ xs H Q E, sp xs H Q E → xs.length = ps.length)
    (body : ∀ (cdv : Value) (A : Around) (up : List Env) (s : Shared) (H : Hp) (xs : List V) (Q : VK) (E : XK), RoomG k (A.deeper (envOfC qual (defScope st) s.heap.objs.size f cdv)) → sp xs H Q E →
      ∃ t, PSs (cxOf CX P w K mg base N qual (defScope st) f cdv A up s H E) (defBody st) t ∧ t { nx := fun _ H' => Q .non H', rt := Q } (start N xs) H) : FnG P w K mg base CX (k + 1) f fd ps sp := by
  obtain ⟨oc, od, kV, dc, pm, an, cdv, ct, sl, rfl, lk, hcd⟩ := F.ex
  refine ⟨ln, fun A up s H g us xs Q E hr e0 hb rv q => ?_⟩
  have old : ∀ b o, base.get? b = some o → s.heap.get? b = some o := fun b o e => (e0.bs b o e).1
  have inK : K.In s.heap := e0.mod.kin.keeps old
  have nl : s.heap.NoLimit := e0.mod.nolimit.keeps old
  have kd : ∀ y ∈ ps.zip us, (defScope st).names.lookup y.1 = some .local ∨ ((defScope st).names.lookup y.1 = some .cell ∧ ((cellsFrom (s.heap.objs.size + 1) (defScope st).names []).lookup y.1).isSome = true) := by
    rintro ⟨n, v⟩ hy
    rcases S.par n (List.of_mem_zip hy).1 with z | z
    · exact Or.inl z
    · exact Or.inr ⟨z, PySem.W.cellsFrom_some _ _ _ (Or.inl z)⟩
  refine codeAny_call_function hr.r.depth (inK _ _ lk) rfl S.co S.gen rfl (PySem.W.codeRec_of inK hcd) (hb _ _ _ _ (wpAny_newFunctionEnv_cells S.kind kd fun env he s1 y => ?_))
  subst he
  refine ⟨nl.keeps y.toInCall.keep, codeAny_func ?_⟩
  obtain ⟨t, ht, hq⟩ := body cdv A up s H xs Q E (hr.down _) q
  have J := inv_start (CX := CX) (E := E) S hr.r.hd e0 (ln _ _ _ _ q) rv y
  refine wpAny_mono (ht.run [] s1 (start N xs) H _ J hq) (fun z s2 hz => ?_) fun e s2 hz => hz
  match z, hz with
  | .ret u, ⟨v, σ2, H2, J2, r2, q2⟩ => exact ⟨v, H2, J2.os, J2.bare, J2.base, J2.hok, r2, q2⟩
  | .next, ⟨σ2, H2, J2, q2⟩ => exact ⟨.non, H2, J2.os, J2.bare, J2.base, J2.hok, rfl, q2⟩
  | .brk, ⟨_, _, _, z⟩ => exact z.elim
  | .cont, ⟨_, _, _, z⟩ => exact z.elim
end
/-- the law's own def, called from the top -/
theorem law_callG {P : Program} {w : World} {K : PySem.W.Frag} {mg mb : Str → Option Value} {CX : CXT} {k : Nat} {fa a : Addr} {fd : FuncData} {x : Str} {sp : Sp} {s1 : Shared} {us : List Value} {ns : List Int}
    (inK : K.In s1.heap) (hns : s1.heap.Ns mainGlobals mg) (hb : s1.heap.Ns builtinsNs mb) (hbb : ∀ x : Str, x ≠ "__name__" → mb x = bootBuiltins x) (nl : s1.heap.NoLimit) (hg : s1.gens = #[])
    (ha : s1.heap.get? a = some { cls := .type "list", data := .seq us.toArray }) (hi : IntsAre us ns) (hl : ns.length ≤ sizeLine) (hr : RoomG k callerA)
    (F : ∀ base : Heap, K.In base → base.Ns mainGlobals mg → FnG P w K mg base CX k fa fd [x] sp) (bind : ∀ (s : Shared) (u : Value), BindsTo s fd ⟨[u], []⟩ [(x, u)])
    (hsp : ∀ H : Hp, Only H → SqL K H a (ns.map V.int) → sp [.ref a] H (fun v _ => v = .bl true) fun _ _ _ => False)
    (hCX : ∀ H e s', CX [] H s1 (fun _ _ _ => False) e s' → False) :
    codeAny (model P w) callerA (.call (.ref fa) ⟨[.ref a], []⟩) (fun r s2 => r = .ok (.ret (.bool true)) ∧ OldK s1.heap s2.heap ∧ s2.os = s1.os ∧ AllBare s2.gens) s1 := by
  have rv := vals_ints hi
  have lu : us.length = ns.length := hi.length
  obtain ⟨H, hO, hS, hok, hA, hK⟩ : ∃ H : Hp, Only H ∧ SqL K H a (ns.map V.int) ∧ HOk P w H s1.heap ∧ (∀ b, H b ≠ none → b = a) ∧ (H a ≠ none → K.lookup a = none) := by
    cases hk : K.lookup a with
    | some o =>
      have eo : o = { cls := .type "list", data := .seq us.toArray } := Option.some.inj ((inK a o hk).symm.trans ha)
      subst eo
      have h1 : HOk P w (fun _ => none) s1.heap := fun b u z => by cases z
      have h2 : SqL K (fun _ => none) a (ns.map V.int) := Or.inr ⟨_, us.toArray, _, hk, rfl, rfl, rfl, by rw [List.size_toArray, lu]; exact hl, by simpa using rv⟩
      exact ⟨fun _ => none, fun _ => Or.inl rfl, h2, h1, fun b z => (z rfl).elim, fun z => (z rfl).elim⟩
    | none =>
      let ob : Obj := { cls := .type "list", data := .seq us.toArray }
      have at1 : (fun b => if b = a then some (HO.frz ob (.lst (ns.map V.int))) else none : Hp) a = some (.frz ob (.lst (ns.map V.int))) := if_pos rfl
      have only1 : ∀ b u, (fun b => if b = a then some (HO.frz ob (.lst (ns.map V.int))) else none : Hp) b = some u → b = a ∧ u = .frz ob (.lst (ns.map V.int)) := fun b u z => by
        by_cases e : b = a
        · exact ⟨e, (Option.some.inj ((if_pos e).symm.trans z)).symm⟩
        · exact nomatch (if_neg e).symm.trans z
      refine ⟨fun b => if b = a then some (.frz ob (.lst (ns.map V.int))) else none, fun b => ?_, Or.inl (Or.inr ⟨ob, at1⟩), fun b u z => ?_, fun b z => ?_, fun _ => rfl⟩
      · by_cases e : b = a
        · exact Or.inr ⟨ob, _, if_pos e⟩
        · exact Or.inl (if_neg e)
      · obtain ⟨e1, e2⟩ := only1 b u z
        subst e1 e2
        exact ⟨ha, by rw [List.length_map]; exact hl, us, _, rv, ha⟩
      · cases e : (fun b => if b = a then some (HO.frz ob (.lst (ns.map V.int))) else none : Hp) b with
        | none => exact absurd e z
        | some u => exact (only1 b u e).1
  have keep : ∀ {b : Addr} {o : Obj}, s1.heap.get? b = some o → H b = none → (hidT s1.heap H).get? b = some o := fun e n => hidT_get e n
  have isD : ∀ {b : Addr} {o : Obj} {es : Array DictEntry} {ep : Nat}, s1.heap.get? b = some o → o.data = .dict es ep → H b = none := fun {b o es ep} e d => by
    cases q : H b with
    | none => rfl
    | some u =>
      have eb := hA b (fun z => by rw [z] at q; cases q)
      rw [eb, ha] at e
      cases e
      cases d
  have nsK : ∀ {b : Addr} {m : Str → Option Value}, s1.heap.Ns b m → (hidT s1.heap H).Ns b m := by
    rintro b m ⟨o, es, ep, e, d, r⟩
    exact ⟨o, es, ep, keep e (isD e d), d, r⟩
  have inB : K.In (hidT s1.heap H) := fun b o e => keep (inK b o e) (by
    cases q : H b with
    | none => rfl
    | some u =>
      have eb := hA b (fun z => by rw [z] at q; cases q)
      subst eb
      exact nomatch (hK (fun z => by rw [z] at q; cases q)).symm.trans e)
  obtain ⟨ml, nl1, nl2⟩ := nl
  have e0 : Env0 P w K mg (hidT s1.heap H) callerA [] s1 H :=
    ⟨rfl, ⟨inB, nsK hns, ⟨mb, nsK hb, hbb⟩, ⟨ml, nsK nl1, nl2⟩⟩, fun b o e => of_hidT e, Nat.le_of_eq (hidT_size _ _), trivial, (fun b z => nomatch z), hok, .of_eq hg⟩
  refine codeAny_mono ((F _ inB (nsK hns)).go callerA [] s1 H ⟨[.ref a], []⟩ [.ref a] [.ref a] _ _ hr e0 (bind s1 (.ref a)) (.cons rfl .nil) (hsp H hO hS)) fun z s2 hz => ?_
  match z, hz with
  | .error e, hz => exact (hCX H e s2 hz).elim
  | .ok (.ret u), ⟨v, H2, os, bare, un, hok2, r2, q2⟩ =>
    have q2 : v = .bl true := q2
    subst q2
    have eu : u = Value.bool true := r2
    subst eu
    refine ⟨rfl, OldK.of_keep fun b o e => ?_, os, bare⟩
    cases q : H b with
    | none => exact un.keep b o e q (fun z => nomatch z) (fun z => nomatch z)
    | some u =>
      rcases hO b with z | ⟨ob, xs, z⟩
      · exact nomatch q.symm.trans z
      · have e1 := (hok b _ z).1
        have e2 := (hok2 b _ (un.frzs b ob _ z)).1
        rw [Option.some.inj (e.symm.trans e1)]
        exact e2
theorem walk_g {l : PySem.W.OpenLaw} {n k : Nat} {q : Program} {loose : List Str} {XP : (Str → Option Value) → Heap → Prop} {YP : World → Heap → Prop} {d : DefRec} {K : Params → PySem.W.Frag} {CX : World → CXT} {sp : World → Sp} {x : Str}
    (hn : l.most = some n) (hn2 : n ≤ sizeLine) (hdf : d.params.defaults = []) (hr : RoomG k callerA) (hY : ∀ (w : World) (h : Heap), YP w h → (K w.params).In h)
    (F : ∀ (w : World) (mg : Str → Option Value) (fa : Addr) (h : Heap), (K w.params).In h → h.Ns mainGlobals mg → mg d.name = some (.ref fa) →
      ∃ fd : FuncData, (∀ (s : Shared) (u : Value), BindsTo s fd ⟨[u], []⟩ [(x, u)]) ∧ ∀ base : Heap, (K w.params).In base → base.Ns mainGlobals mg → FnG l.prog w (K w.params) mg base (CX w) k fa fd [x] (sp w))
    (hsp : ∀ (w : World) (H : Hp) (a : Addr) (ns : List Int), ns.length ≤ n → Only H → SqL (K w.params) H a (ns.map V.int) → sp w [.ref a] H (fun v _ => v = .bl true) fun _ _ _ => False)
    (hCX : ∀ (w : World) (H : Hp) (s : Shared) (e : Value) (s' : Shared), CX w [] H s (fun _ _ _ => False) e s' → False) :
    PySem.W.WalkO q loose XP YP l.row.toRowW d [] (fun f vs => PySem.call f vs) := by
  refine Att.attach_call hn hdf fun w s0 s1 mg mb fa o pm cd doc a us ns G Y ho hd hcd hmg hobj hints hlen hg => ?_
  obtain ⟨fd, hb, hF⟩ := F w mg fa _ (hY w _ Y) G.T.g hmg
  exact law_callG (hY w _ Y) G.T.g G.T.b G.T.builtins G.T.nolimit hg hobj hints (Nat.le_trans hlen hn2) hr hF hb (fun H => hsp w H a ns hlen) fun H e s2 => hCX w H s1 e s2
theorem roomG_caller : RoomG 20 callerA := ⟨⟨rfl, by decide, by decide⟩, rfl⟩
end PD
end
section
set_option Elab.async false
set_option linter.all false
set_option maxRecDepth 100000
set_option maxHeartbeats 4000000
/-! PDF: tuples of which it is known that they have no dict of their own: told as frozen. -/
namespace PD
open PySem PySem.Spec PyProof.Rows L2
/-- a tuple without a dict -/
def TupF (H : Hp) (a : Addr) (xs : List V) : Prop := ∃ o : Obj, o.dict = none ∧ H a = some (.frz o (.tup xs))
/-- .. of the program's own text -/
def TupK (K : PySem.W.Frag) (a : Addr) (xs : List V) : Prop := ∃ (o : Obj) (its : Array Value) (n : Nat), K.lookup a = some o ∧ o.cls = .type "tuple" ∧ o.dict = none ∧ o.data = .seq its n ∧ its.size ≤ sizeLine ∧ Vals xs its.toList
/-- a new tuple, what is wanted of it -/
def NewT (H : Hp) (xs : List V) (Q : VK) : Prop := ∀ (p : Addr) (o : Obj), H p = none → o.dict = none → Q (.ref p) (upd H p (.frz o (.tup xs)))
section
variable {X : Cx} {pins : List (Addr × Obj)} {σ : L2.St} {H : Hp} {s : Shared} {h' : Heap}
abbrev tupO (its : List Value) : Obj := { cls := .type "tuple", data := .seq its.toArray }
theorem lay_tup {its : List Value} {xs : List V} {p : Addr} {tk : Nat} {Q : VK} (I : Inv X pins σ H s) (old : ∀ b u, s.heap.get? b = some u → h'.get? b = some u) (np : s.heap.objs.size ≤ p) (at1 : h'.get? p = some (tupO its))
    (few : xs.length ≤ sizeLine) (r : Vals xs its) (q : NewT H xs Q) : EP X pins σ Q (.ref p) { s with heap := h', toks := tk } := by
  have ok : ObjOk X.prog X.w (upd H p (.frz (tupO its) (.tup xs))) h' p (.frz (tupO its) (.tup xs)) := ⟨at1, few, its, r, _, at1, rfl, _, rfl⟩
  exact ⟨.ref p, _, I.laid old np ok, rfl, q p (tupO its) (I.hok.fresh np) rfl⟩
theorem lay_push {its : List Value} {xs : List V} {Q : VK} (I : Inv X pins σ H s) (few : xs.length ≤ sizeLine) (r : Vals xs its) (q : NewT H xs Q) : EP X pins σ Q (.ref s.heap.objs.size) { s with heap := s.heap.push (tupO its) } :=
  lay_tup I (fun _ _ e => Heap.get?_push_of_some _ e) (Nat.le_refl _) (Heap.get?_push_size _ rfl) few r q
/-- (a, b) -/
def tTupF (t : TA) : TE := fun σ H Q => t σ H fun xs H1 => xs.length ≤ sizeLine ∧ NewT H1 xs Q
theorem pe_tupF {es : List Expr} {x1} {pos : Pos} {t : TA} (h : PA X es t) : PE X (.Tuple es x1 pos) (tTupF t) :=
  ⟨fun pins s σ H Q I w => wpAny_Tuple_spliced (thn (h.run pos pins s σ H _ I w) fun us s1 ⟨xs, H1, J, r, few, q⟩ => ⟨r.length ▸ few, lay_push J few r q⟩)⟩
/-- tuple(x) -/
theorem call_tupleF : CallR X (.type "tuple") fun xs H Q => ∃ p ys, xs = [.ref p] ∧ ((SqL X.K H p ys ∧ NewT H ys Q) ∨ (SqT X.K H p ys ∧ Q (.ref p) H)) := by
  rintro pins s σ H xs us Q I r ⟨p, ys, rfl, w⟩
  obtain ⟨u, rfl, ru⟩ := vals1 r
  cases ru
  rcases w with ⟨sq, q⟩ | ⟨sq, q⟩
  · obtain ⟨its, rv, pl, few⟩ := I.list sq
    have n1 := rv.length
    refine call_tuple_list pl.isList (fun g kp => ?_) (by simp only [List.size_toArray] <;> omega)
    have J : Inv X pins σ H { s with heap := g } := I.kept (t' := s.toks) kp
    exact lay_push J few rv q
  · obtain ⟨_, _, pl, _⟩ := I.tuple sq
    exact call_tuple_same pl ⟨.ref p, H, I, rfl, q⟩
/-- t + u -/
def rCatN (K : PySem.W.Frag) : R2 := fun x y H Q => ∃ a b xs ys, x = .ref a ∧ y = .ref b ∧ SqT K H a xs ∧ SqT K H b ys ∧ xs.length + ys.length ≤ sizeLine ∧ (xs = [] → Q (.ref b) H) ∧ (ys = [] → Q (.ref a) H) ∧ NewT H (xs ++ ys) Q
theorem op_catN : OpR X (binaryOp .Add) (rCatN X.K) := by
  rintro pins s σ H x y v u Q I rx ry ⟨a, b, xs, ys, rfl, rfl, ha, hb, few, q0, q1, q2⟩
  cases rx; cases ry
  obtain ⟨us, ra, ta, _⟩ := I.tuple ha
  obtain ⟨ws, rb, tb, _⟩ := I.tuple hb
  by_cases hx : us = []
  · subst hx
    cases ra
    exact cat_tup0 ta tb ⟨.ref b, H, I, rfl, q0 rfl⟩
  · refine HT.cat_tup ta tb hx (fun z => ⟨.ref a, H, I, rfl, q1 (rb.nil_iff.mp z)⟩) (fun _ => lay_push I (by rw [List.length_append]; exact few) (ra.append rb) q2) ?_
    have := ra.length; have := rb.length
    omega
/-- t[lo:hi] -/
def rSlN (K : PySem.W.Frag) : V → Option Int → Option Int → Hp → VK → Prop := fun x lo hi H Q => ∃ a xs, x = .ref a ∧ SqT K H a xs ∧ (cutV xs lo hi = xs → Q (.ref a) H) ∧ NewT H (cutV xs lo hi) Q
theorem cut_whole {xs : List V} {lo hi : Option Int} (h : HT.sIx xs.length 0 lo = 0 ∧ HT.sIx xs.length xs.length hi = xs.length) : cutV xs lo hi = xs := by
  unfold cutV
  rw [h.1, h.2, List.drop_zero, Nat.sub_zero, List.take_length]
theorem sl_tupN : SlR X (rSlN X.K) := by
  rintro pins s σ H x v vl vu lo hi sl Q I rx hs pl pu ⟨a, xs, rfl, sq, q1, q2⟩
  cases rx
  obtain ⟨its, r, tt, few⟩ := I.tuple sq
  have n1 : its.toArray.size = xs.length := by rw [List.size_toArray, r.length]
  refine ⟨"tuple", _, PyProof.Rows.slot_tuple_getitem.lookup, tt.typeIs, ?_⟩
  by_cases whole : HT.sIx xs.length 0 lo = 0 ∧ HT.sIx xs.length xs.length hi = xs.length
  · exact getItem_tuple_whole tt hs pl pu (n1 ▸ whole) ⟨.ref a, H, I, rfl, q1 (cut_whole whole)⟩
  · refine HT.getItem_tuple_cut tt hs pl pu (n1 ▸ whole) ?_ (n1 ▸ few)
    rw [n1]
    exact lay_push I (Nat.le_trans (cutV_length xs lo hi) few) ((r.drop _).take _) q2
end
section
variable {X : Cx}
/-- t * n -/
def rRepN (K : PySem.W.Frag) : R2 := fun x y H Q => ∃ l k xs, x = .ref l ∧ y = .int k ∧ SqT K H l xs ∧ xs ≠ [] ∧ 2 ≤ k ∧ k ≤ 1000 ∧ xs.length ≤ 1000 ∧ NewT H (List.replicate k.toNat xs).flatten Q
theorem op_repN : OpR X (binaryOp .Mult) (rRepN X.K) := by
  rintro pins s σ H x y v u Q I rx ry ⟨l, k, xs, rfl, rfl, sq, ne, k1, k2, few, q⟩
  cases rx
  obtain ⟨tk, rfl⟩ := ry
  obtain ⟨its, r, ⟨⟨cls, dd, data, sl⟩, at0, ec, n, ed⟩, _⟩ := I.tuple sq
  simp only at ec ed
  subst ec ed
  have e1 : xs.length = its.length := r.length
  have e2 : its.toArray.isEmpty = false := by
    cases its with
    | nil => exact absurd (List.eq_nil_of_length_eq_zero e1) ne
    | cons _ _ => rfl
  have e3 : its.toArray.size = xs.length := by rw [List.size_toArray, e1]
  have m1 : k.toNat * xs.length ≤ 1000 * 1000 := Nat.mul_le_mul (by omega) few
  have m2 : ((its.toArray.size : Nat) : Int) * k ≤ 1000000 := by
    rw [e3]
    have : ((xs.length : Nat) : Int) * k ≤ 1000 * k := Int.mul_le_mul_of_nonneg_right (by omega) (by omega)
    omega
  have f1 : (List.replicate k.toNat its).flatten.length ≤ sizeLine := by
    rw [PyProof.Rows.lm_len_rep_flat, ← e1, sizeLine_eq]
    omega
  have g0 : (decide (k < -(2 ^ 63)) || decide (k ≥ 2 ^ 63)) = false := by simp only [Bool.or_eq_false_iff, decide_eq_false_iff_not]; omega
  have g1 : (its.toArray.isEmpty || k == 1) = false := by rw [e2, Bool.false_or, beq_eq_false_iff_ne]; omega
  have g2 : (decide (k ≤ 0) || its.toArray.isEmpty) = false := by rw [e2, Bool.or_false, decide_eq_false_iff_not]; omega
  have g4 : Builtin.Tuple.tupleTooMany (((its.toArray.size : Nat) : Int) * k) = false := by
    unfold Builtin.Tuple.tupleTooMany
    rw [sizeLine_eq, decide_eq_false_iff_not]
    omega
  have step := tuple_mulW l its.toArray n dd sl k tk g0 g1 g2 (by omega) g4 (by rw [size_rep, List.size_toArray]; exact f1)
  refine wpAny_binaryOp_repeat_ref (T := "tuple") (U := "int") (by decide) ⟨_, at0, rfl⟩ (fun z => typeIs_int z k tk) noFill_tuple_mul F.fills_int_mul F.slot_int_rmul repeat_tuple F.slot_int_index.lookup ?_
  refine call_meets F.slot_int_rmul (typeIs_int s k tk) F.entry_int_rmul (F.args_int_rmul_2 _ _) (int_rmul_tuple k tk l its.toArray n dd sl) ⟨at0, rfl, ⟨_, at0, rfl⟩, ?_⟩
  refine call_meets F.slot_tuple_mul ⟨_, at0, rfl⟩ F.entry_tuple_mul (F.args_tuple_mul_2 _ _) step ⟨at0, ?_⟩
  rw [size_rep]
  exact lay_push I (by rw [PyProof.Rows.lm_len_rep_flat, sizeLine_eq]; omega) (r.rep k.toNat) q
end
/-! ### list(d.items()) -/
section
variable {X : Cx} {pins : List (Addr × Obj)} {σ : L2.St} {H : Hp} {s : Shared} {h' : Heap}
/-- the pairs, frozen as they stand -/
def putF (h : Heap) (H : Hp) : List Addr → List (Key × V) → Hp
  | t :: ts, q :: qs => putF h (fun b => if b = t then (h.get? t).map fun o => .frz o (.tup [kV q.1, q.2]) else H b) ts qs
  | _, _ => H
theorem putF_off {h : Heap} {b : Addr} : ∀ (ts : List Addr) (qs : List (Key × V)) (H : Hp), b ∉ ts → putF h H ts qs b = H b
  | [], _, _, _ => by unfold putF; rfl
  | _ :: _, [], _, _ => by unfold putF; rfl
  | t :: ts, q :: qs, H, n => by
    unfold putF
    rw [putF_off ts qs _ fun z => n (List.mem_cons_of_mem _ z)]
    exact if_neg fun z => n (by rw [z]; exact List.mem_cons_self)
theorem putF_in {h : Heap} : ∀ (ts : List Addr) (qs : List (Key × V)) (H : Hp) (i : Nat) (t : Addr) (q : Key × V), ts.Nodup → ts[i]? = some t → qs[i]? = some q → putF h H ts qs t = (h.get? t).map fun o => .frz o (.tup [kV q.1, q.2])
  | [], _, _, _, _, _, _, e, _ => by cases e
  | _ :: _, [], _, _, _, _, _, _, e => by cases e
  | t :: ts, q :: qs, H, 0, t', q', nd, e1, e2 => by
    cases e1; cases e2
    unfold putF
    rw [putF_off ts qs _ (List.nodup_cons.mp nd).1]
    exact if_pos rfl
  | t :: ts, q :: qs, H, i + 1, t', q', nd, e1, e2 => by
    unfold putF
    exact putF_in ts qs _ i t' q' (List.nodup_cons.mp nd).2 e1 e2
theorem items_laidF {tk : Nat} {kvs : List (Key × V)} {vs : List (Key × Value)} {acc : Array Value} {c : Nat} {as : List Addr} (I : Inv X pins σ H s) (few : kvs.length ≤ sizeLine) (kv : KV kvs vs) (old : ∀ b o, s.heap.get? b = some o → h'.get? b = some o)
    (at1 : h'.get? s.heap.objs.size = some { cls := .type "list", dict := none, data := .seq acc c, slots := #[] }) (hl : as.length = vs.length) (G : PySem.W.KdxG (mixKind X.prog X.w) vs s.heap.objs.size h' as) (hacc : acc.toList = as.map Value.ref) :
    ∃ G' : Hp, (∀ b o, H b = some o → G' b = some o) ∧ H s.heap.objs.size = none ∧ (∀ t ∈ as, H t = none) ∧ G' s.heap.objs.size = some (.lst (as.map V.ref)) ∧ (∀ (i : Nat) (t : Addr), as[i]? = some t → ∃ q, kvs[i]? = some q ∧ TupF G' t [kV q.1, q.2]) ∧ Inv X pins σ G' { s with heap := h', toks := tk } := by
  have lk : kvs.length = vs.length := Paired.length kv
  have nd : as.Nodup := G.rise.imp fun {a b} (h : a < b) => Nat.ne_of_lt h
  have big : ∀ t ∈ as, s.heap.objs.size < t := G.above
  have new : ∀ t ∈ as, H t = none := fun t ht => I.hok.fresh (Nat.le_of_lt (big t ht))
  have newS : H s.heap.objs.size = none := I.hok.fresh (Nat.le_refl _)
  have notS : s.heap.objs.size ∉ as := fun z => Nat.lt_irrefl _ (big _ z)
  generalize eG : putF h' (upd H s.heap.objs.size (.lst (as.map V.ref))) as kvs = G'
  have off : ∀ b, b ∉ as → b ≠ s.heap.objs.size → G' b = H b := fun b n1 n2 => by rw [← eG, putF_off as kvs _ n1, upd_ne n2]
  have atS : G' s.heap.objs.size = some (.lst (as.map V.ref)) := by rw [← eG, putF_off as kvs _ notS, upd_same]
  have low : ∀ b o, s.heap.get? b = some o → b ∉ as ∧ b ≠ s.heap.objs.size := fun b o e => ⟨fun z => Nat.lt_asymm (Heap.lt_size e) (big b z), Nat.ne_of_lt (Heap.lt_size e)⟩
  have kp : ∀ b u, H b = some u → G' b = some u := fun b u e => by
    rw [off b (fun z => by rw [new b z] at e; cases e) fun z => by rw [z, newS] at e; cases e]; exact e
  have each : ∀ (i : Nat) (t : Addr), as[i]? = some t → ∃ q o, kvs[i]? = some q ∧ o.dict = none ∧ G' t = some (.frz o (.tup [kV q.1, q.2])) ∧ h'.get? t = some o ∧ ∀ G2 : Hp, ObjOk X.prog X.w G2 h' t (.tup [kV q.1, q.2]) := fun i t e => by
    obtain ⟨key, k, x, f1, f2, f3⟩ := G.pairs i t e
    obtain ⟨q, hq⟩ : ∃ q, kvs[i]? = some q := ⟨kvs[i]'(by rw [lk]; exact (List.getElem?_eq_some_iff.mp f1).1), List.getElem?_eq_getElem _⟩
    obtain ⟨y, g1, g2⟩ := LiI.paired_get kv hq
    rw [f1] at g1
    cases g1
    refine ⟨q, _, hq, rfl, by rw [← eG, putF_in as kvs _ i t q nd e hq, f3]; rfl, f3, fun G2 => ⟨by show 2 ≤ sizeLine; decide, [key, x], .cons ?_ (.cons g2.2 .nil), _, f3, rfl, _, rfl⟩⟩
    rw [g2.1]
    exact relV_key (show keyIs k key = true from f2)
  refine ⟨G', kp, newS, new, atS, fun i t e => ?_, ?_⟩
  · obtain ⟨q, o, z1, z2, z3, _⟩ := each i t e
    exact ⟨q, z1, o, z2, z3⟩
  · refine I.un ⟨fun b o q _ _ _ => old b o q, fun b o q _ _ _ => ⟨o.slots, old b o q⟩, fun b o q n _ => by rw [off b (low b o q).1 (low b o q).2]; exact n, fun b o q _ => ⟨o, old b o q⟩, fun b xs q => kp b _ q, fun b o u q => kp b _ q, fun b ps q => ⟨#[], by rw [kp b _ q]; simp⟩⟩ fun b u q => ?_
    by_cases hb : b ∈ as
    · obtain ⟨i, hi⟩ := List.mem_iff_getElem?.mp hb
      obtain ⟨q2, o, _, _, z3, z4, z5⟩ := each i b hi
      rw [z3] at q
      cases q
      exact ⟨z4, z5 G'⟩
    · by_cases hb2 : b = s.heap.objs.size
      · subst hb2
        rw [atS] at q
        cases q
        exact ⟨by rw [List.length_map]; omega, acc.toList, c, by rw [hacc]; exact LiI.vals_refs as, by rw [Array.toArray_toList]; exact at1⟩
      · rw [off b hb hb2] at q
        exact (I.hok b u q).stay (fun d v _ y => old d v y) (fun d y => kp d _ y) fun d xs y => kp d _ y
end
end PD
end
section
set_option Elab.async false
set_option linter.all false
set_option maxRecDepth 100000
set_option maxHeartbeats 4000000
/-! PD: plain data. What a value is as data in an abstract heap, where some addresses are OWNED (O): lists and dicts that only one name holds. -/
namespace PD
open PySem PySem.Spec PyProof.Rows L2

abbrev Ow := Addr → Prop
/-- the tables of code objects that a law's lambdas need -/
class TB where
  tb : List (Addr × Str)
  prog : Program
  w : World
/-- a dict with tuples for keys, by its own object -/
def DxOk [TB] (a : Addr) (xs : List (List Key × Addr × Value)) : Heap → Prop := fun h => xs.length ≤ sizeLine ∧ (a == sysModules) = false ∧ (xs.map (·.1)).Nodup ∧
  ∃ (o : Obj) (es : Array DictEntry) (ep : Nat), h.get? a = some o ∧ o.ExactDict ∧ o.data = .dict es ep ∧ es.toList = xs.map (entryOfKey (tupleKind (mixKind TB.prog TB.w)))
def DxO [TB] (a : Addr) (xs : List (List Key × Addr × Value)) : HO := .ext (DxOk a xs)
variable [TB]
/-- something stands there, and it is no tuple -/
def NT : Option HO → Prop
  | none => False
  | some (.tup _) => False
  | some (.frz _ (.tup _)) => False
  | some (.ext φ) => ∃ a xs, φ = DxOk a xs
  | _ => True
theorem NT.ne {x : Option HO} (h : NT x) : x ≠ none := fun e => by rw [e] at h; exact h

/-- a key as data -/
def keyD : Key → PyData
  | .inl i => .int i
  | .inr x => .str x
def keysD (l : List Key) : PyData := .tuple (l.map keyD)
/-- a dict as data: ahead stands of which kind its keys are (true: tuples) -/
def dicD (t : Bool) (ds : List (PyData × PyData)) : PyData := .dict ((.bool t, .none) :: ds)

def SqLo (O : Ow) (H : Hp) (a : Addr) (xs : List V) : Prop := ¬ O a ∧ H a = some (.lst xs)
def SqTo (K : PySem.W.Frag) (O : Ow) (H : Hp) (a : Addr) (xs : List V) : Prop := ¬ O a ∧ TupF H a xs
theorem SqLo.sq {K : PySem.W.Frag} {O : Ow} {H : Hp} {a : Addr} {xs : List V} (h : SqLo O H a xs) : SqL K H a xs := .inl (.inl h.2)
theorem SqTo.sq {K : PySem.W.Frag} {O : Ow} {H : Hp} {a : Addr} {xs : List V} (h : SqTo K O H a xs) : SqT K H a xs := by
  obtain ⟨_, o, _, e⟩ := h
  exact .inl (.inr ⟨o, e⟩)

mutual
inductive At (K : PySem.W.Frag) (O : Ow) (H : Hp) : V → PyData → Prop
  | non : At K O H .non .none
  | bl (b : Bool) : At K O H (.bl b) (.bool b)
  | int (i : Int) : At K O H (.int i) (.int i)
  | str (x : Str) : At K O H (.str x) (.str x)
  | lst {a : Addr} {xs : List V} {ds : List PyData} : SqLo O H a xs → AtL K O H xs ds → At K O H (.ref a) (.list ds)
  | tup {a : Addr} {xs : List V} {ds : List PyData} : SqTo K O H a xs → AtL K O H xs ds → At K O H (.ref a) (.tuple ds)
  | dicK {a : Addr} {kvs : List (Key × V)} {ds : List (PyData × PyData)} : ¬ O a → Rd H a (.dK kvs) → AtK K O H kvs ds → At K O H (.ref a) (.dict ((.bool false, .none) :: ds))
  | dicT {a : Addr} {kvs : List (List Key × Addr × Value)} {ds : List (PyData × PyData)} : ¬ O a → Rd H a (DxO a kvs) → AtT K O H kvs ds → At K O H (.ref a) (.dict ((.bool true, .none) :: ds))
  | pr {a : Addr} {xs : List V} {ds : List (PyData × PyData)} : ¬ O a → H a = some (.tup xs) → AtP K O H xs ds → At K O H (.ref a) (.dict ((.none, .none) :: ds))
inductive AtL (K : PySem.W.Frag) (O : Ow) (H : Hp) : List V → List PyData → Prop
  | nil : AtL K O H [] []
  | cons {v : V} {vs : List V} {d : PyData} {ds : List PyData} : At K O H v d → AtL K O H vs ds → AtL K O H (v :: vs) (d :: ds)
inductive AtK (K : PySem.W.Frag) (O : Ow) (H : Hp) : List (Key × V) → List (PyData × PyData) → Prop
  | nil : AtK K O H [] []
  | cons {k : Key} {v : V} {vs : List (Key × V)} {d : PyData} {ds : List (PyData × PyData)} : At K O H v d → AtK K O H vs ds → AtK K O H ((k, v) :: vs) ((keyD k, d) :: ds)
inductive AtT (K : PySem.W.Frag) (O : Ow) (H : Hp) : List (List Key × Addr × Value) → List (PyData × PyData) → Prop
  | nil : AtT K O H [] []
  | cons {k : List Key} {b : Addr} {u : Value} {v : V} {vs : List (List Key × Addr × Value)} {d : PyData} {ds : List (PyData × PyData)} : SqTo K O H b (k.map kV) → RelV v u → At K O H v d → AtT K O H vs ds → AtT K O H ((k, b, u) :: vs) ((keysD k, d) :: ds)
/-- a pair that a walk makes -/
inductive AtP (K : PySem.W.Frag) (O : Ow) (H : Hp) : List V → List (PyData × PyData) → Prop
  | nil : AtP K O H [] []
  | cons {v : V} {vs : List V} {d : PyData} {ds : List (PyData × PyData)} : At K O H v d → AtP K O H vs ds → AtP K O H (v :: vs) ((.none, d) :: ds)
end

/-- what is not owned stays, and nothing that stood becomes owned -/
structure Kp (O : Ow) (H : Hp) (O' : Ow) (H' : Hp) : Prop where
  st : ∀ a o, H a = some o → ¬ O a → H' a = some o
  ow : ∀ a, ¬ O a → H a ≠ none → ¬ O' a
theorem Kp.refl {O : Ow} {H : Hp} : Kp O H O H := ⟨fun _ _ h _ => h, fun _ h _ => h⟩
theorem Kp.trans {O O1 O2 : Ow} {H H1 H2 : Hp} (a : Kp O H O1 H1) (b : Kp O1 H1 O2 H2) : Kp O H O2 H2 :=
  ⟨fun c o h n => b.st c o (a.st c o h n) (a.ow c n (by rw [h]; exact fun z => nomatch z)), fun c n h => b.ow c (a.ow c n h) (by
    cases e : H c with
    | none => exact absurd e h
    | some o => rw [a.st c o e n]; exact fun z => nomatch z)⟩

section
variable {K : PySem.W.Frag} {O O' : Ow} {H H' : Hp}
theorem Kp.rd (k : Kp O H O' H') {a : Addr} {u : HO} (n : ¬ O a) (r : Rd H a u) : Rd H' a u := by
  rcases r with r | ⟨o, r⟩
  · exact .inl (k.st a _ r n)
  · exact .inr ⟨o, k.st a _ r n⟩
theorem Rd.some {a : Addr} {u : HO} (r : Rd H a u) : H a ≠ none := by
  rcases r with r | ⟨o, r⟩ <;> rw [r] <;> exact fun z => nomatch z
theorem Kp.sqL (k : Kp O H O' H') {a : Addr} {xs : List V} (h : SqLo O H a xs) : SqLo O' H' a xs := ⟨k.ow _ h.1 (by rw [h.2]; exact fun z => nomatch z), k.st _ _ h.2 h.1⟩
theorem Kp.sqT (k : Kp O H O' H') {a : Addr} {xs : List V} (h : SqTo K O H a xs) : SqTo K O' H' a xs := by
  obtain ⟨n, o, e1, e2⟩ := h
  exact ⟨k.ow _ n (by rw [e2]; exact fun z => nomatch z), o, e1, k.st _ _ e2 n⟩
mutual
theorem At.kp (k : Kp O H O' H') : ∀ (d : PyData) (v : V), At K O H v d → At K O' H' v d
  | .none, _, h => by cases h; exact .non
  | .bool _, _, h => by cases h; exact .bl _
  | .int _, _, h => by cases h; exact .int _
  | .str _, _, h => by cases h; exact .str _
  | .list ds, _, h => by
    cases h with
    | lst s l => exact .lst (k.sqL s) (AtL.kp k ds _ l)
  | .tuple ds, _, h => by
    cases h with
    | tup s l => exact .tup (k.sqT s) (AtL.kp k ds _ l)
  | .dict (_ :: ds), _, h => by
    cases h with
    | dicK n s l => exact .dicK (k.ow _ n (Rd.some s)) (k.rd n s) (AtK.kp k ds _ l)
    | dicT n s l => exact .dicT (k.ow _ n (Rd.some s)) (k.rd n s) (AtT.kp k ds _ l)
    | pr n s l => exact .pr (k.ow _ n (by rw [s]; exact fun z => nomatch z)) (k.st _ _ s n) (AtP.kp k ds _ l)
  | .dict [], _, h => by cases h
theorem AtL.kp (k : Kp O H O' H') : ∀ (ds : List PyData) (vs : List V), AtL K O H vs ds → AtL K O' H' vs ds
  | [], _, h => by cases h; exact .nil
  | d :: ds, _, h => by
    cases h with
    | cons h1 h2 => exact .cons (At.kp k d _ h1) (AtL.kp k ds _ h2)
theorem AtK.kp (k : Kp O H O' H') : ∀ (ds : List (PyData × PyData)) (vs : List (Key × V)), AtK K O H vs ds → AtK K O' H' vs ds
  | [], _, h => by cases h; exact .nil
  | (_, d) :: ds, _, h => by
    cases h with
    | cons h1 h2 => exact .cons (At.kp k d _ h1) (AtK.kp k ds _ h2)
theorem AtT.kp (k : Kp O H O' H') : ∀ (ds : List (PyData × PyData)) (vs : List (List Key × Addr × Value)), AtT K O H vs ds → AtT K O' H' vs ds
  | [], _, h => by cases h; exact .nil
  | (_, d) :: ds, _, h => by
    cases h with
    | cons h0 hr h1 h2 => exact .cons (k.sqT h0) hr (At.kp k d _ h1) (AtT.kp k ds _ h2)
theorem AtP.kp (k : Kp O H O' H') : ∀ (ds : List (PyData × PyData)) (vs : List V), AtP K O H vs ds → AtP K O' H' vs ds
  | [], _, h => by cases h; exact .nil
  | (_, d) :: ds, _, h => by
    cases h with
    | cons h1 h2 => exact .cons (At.kp k d _ h1) (AtP.kp k ds _ h2)
end
theorem At.to (k : Kp O H O' H') {d : PyData} {v : V} (h : At K O H v d) : At K O' H' v d := At.kp k d v h
theorem AtL.to (k : Kp O H O' H') {d : List PyData} {v : List V} (h : AtL K O H v d) : AtL K O' H' v d := AtL.kp k d v h
theorem AtK.to (k : Kp O H O' H') {d : List (PyData × PyData)} {v : List (Key × V)} (h : AtK K O H v d) : AtK K O' H' v d := AtK.kp k d v h
theorem AtP.to (k : Kp O H O' H') {d : List (PyData × PyData)} {v : List V} (h : AtP K O H v d) : AtP K O' H' v d := AtP.kp k d v h
theorem AtT.to (k : Kp O H O' H') {d : List (PyData × PyData)} {v : List (List Key × Addr × Value)} (h : AtT K O H v d) : AtT K O' H' v d := AtT.kp k d v h
/-- fewer are owned -/
theorem Kp.less (h : ∀ a, O' a → O a) : Kp O H O' H := ⟨fun _ _ h _ => h, fun a n _ z => n (h a z)⟩
/-- a new object -/
theorem Kp.new {p : Addr} {o : HO} (hp : H p = none) : Kp O H O (upd H p o) := ⟨fun a u e _ => by rw [upd_ne (ne_of_none e hp)]; exact e, fun _ n _ => n⟩
theorem AtL.length {vs : List V} {ds : List PyData} : ∀ {vs : List V} {ds : List PyData}, AtL K O H vs ds → vs.length = ds.length
  | _, _, .nil => rfl
  | _, _, .cons _ t => by rw [List.length_cons, List.length_cons, AtL.length (vs := vs) (ds := ds) t]
theorem AtL.len {vs : List V} {ds : List PyData} (h : AtL K O H vs ds) : vs.length = ds.length := AtL.length (vs := vs) (ds := ds) h
theorem AtL.get : ∀ {vs : List V} {ds : List PyData} {i : Nat} {v : V}, AtL K O H vs ds → vs[i]? = some v → ∃ d, ds[i]? = some d ∧ At K O H v d
  | _, _, _, _, .nil, e => by simp at e
  | _, _, 0, _, .cons r _, e => by simp at e; subst e; exact ⟨_, rfl, r⟩
  | _, _, i + 1, v, .cons _ t, e => by
    obtain ⟨d, h1, h2⟩ := AtL.get (i := i) (v := v) t (by simpa using e)
    exact ⟨d, by simpa using h1, h2⟩
theorem AtL.get' : ∀ {vs : List V} {ds : List PyData} {i : Nat} {d : PyData}, AtL K O H vs ds → ds[i]? = some d → ∃ v, vs[i]? = some v ∧ At K O H v d
  | _, _, _, _, .nil, e => by simp at e
  | _, _, 0, _, .cons r _, e => by simp at e; subst e; exact ⟨_, rfl, r⟩
  | _, _, i + 1, v, .cons _ t, e => by
    obtain ⟨d, h1, h2⟩ := AtL.get' (i := i) (d := v) t (by simpa using e)
    exact ⟨d, by simpa using h1, h2⟩
theorem AtL.append : ∀ {vs ws : List V} {ds es : List PyData}, AtL K O H vs ds → AtL K O H ws es → AtL K O H (vs ++ ws) (ds ++ es)
  | _, _, _, _, .nil, s => s
  | _, _, _, _, .cons r t, s => .cons r (AtL.append t s)
theorem AtL.set : ∀ {vs : List V} {ds : List PyData} (i : Nat) {v : V} {d : PyData}, AtL K O H vs ds → At K O H v d → AtL K O H (vs.set i v) (ds.set i d)
  | _, _, _, _, _, .nil, _ => .nil
  | _, _, 0, _, _, .cons _ t, r => .cons r t
  | _, _, i + 1, _, _, .cons q t, r => .cons q (AtL.set i t r)
theorem AtL.take : ∀ {vs : List V} {ds : List PyData} (n : Nat), AtL K O H vs ds → AtL K O H (vs.take n) (ds.take n)
  | _, _, 0, _ => .nil
  | _, _, _ + 1, .nil => .nil
  | _, _, n + 1, .cons r t => .cons r (AtL.take n t)
theorem AtL.drop : ∀ {vs : List V} {ds : List PyData} (n : Nat), AtL K O H vs ds → AtL K O H (vs.drop n) (ds.drop n)
  | _, _, 0, r => r
  | _, _, _ + 1, .nil => .nil
  | _, _, n + 1, .cons r t => AtL.drop n t
theorem AtL.reverse {vs : List V} {ds : List PyData} (h : AtL K O H vs ds) : AtL K O H vs.reverse ds.reverse := by
  induction vs generalizing ds with
  | nil => cases h; exact .nil
  | cons v vs ih =>
    cases h with
    | cons r t => rw [List.reverse_cons, List.reverse_cons]; exact (ih t).append (.cons r .nil)
theorem AtL.eraseIdx : ∀ {vs : List V} {ds : List PyData} (i : Nat), AtL K O H vs ds → AtL K O H (vs.eraseIdx i) (ds.eraseIdx i)
  | _, _, _, .nil => .nil
  | _, _, 0, .cons _ t => t
  | _, _, i + 1, .cons q t => .cons q (AtL.eraseIdx i t)
end

/-! ### what Reads asks -/
section
variable {X : Cx} {pins : List (Addr × Obj)} {σ : L2.St} {H : Hp} {s : Shared} {O : Ow}
theorem kvs_keys : ∀ {kvs : List (Key × V)} {vs : List (Key × Value)}, KV kvs vs → kvs.map (·.1) = vs.map (·.1)
  | _, _, .nil => rfl
  | _, _, .cons r t => by rw [List.map_cons, List.map_cons, r.1, kvs_keys t]
mutual
theorem At.reads (I : Inv X pins σ H s) : ∀ (d : PyData) (v : V) (u : Value), d.plain = true → At X.K O H v d → RelV v u → ∃ as, Reads s.heap u d as
  | .none, _, _, _, h, r => by cases h; cases r; exact ⟨_, Reads.none⟩
  | .bool b, _, _, _, h, r => by cases h; cases r; exact ⟨_, Reads.bool b⟩
  | .int i, _, _, _, h, r => by cases h; obtain ⟨t, rfl⟩ := r; exact ⟨_, Reads.int i t⟩
  | .str x, _, _, _, h, r => by cases h; obtain ⟨t, rfl⟩ := r; exact ⟨_, Reads.str x t⟩
  | .list ds, _, _, hd, h, r => by
    cases h with
    | lst hs ha =>
      cases r
      obtain ⟨its, rv, ⟨o, n, ho, hc, _, hd'⟩, _⟩ := I.list hs.sq
      obtain ⟨as, hr⟩ := AtL.reads I ds _ its (by simpa [PyData.plain] using hd) ha rv
      exact ⟨_, Reads.list ho hc hd' hr⟩
  | .tuple ds, _, _, hd, h, r => by
    cases h with
    | tup hs ha =>
      cases r
      obtain ⟨its, rv, ⟨o, ho, hc, n, hd'⟩, _⟩ := I.tuple hs.sq
      obtain ⟨as, hr⟩ := AtL.reads I ds _ its (by simpa [PyData.plain] using hd) ha rv
      exact ⟨_, Reads.tuple ho hc hd' hr⟩
  | .dict _, _, _, hd, h, _ => by simp [PyData.plain] at hd
theorem AtL.reads (I : Inv X pins σ H s) : ∀ (ds : List PyData) (vs : List V) (us : List Value), PyData.plainAll ds = true → AtL X.K O H vs ds → Vals vs us → ∃ as, ReadsAll s.heap us ds as
  | [], _, _, _, h, r => by cases h; cases r; exact ⟨_, ReadsAll.nil⟩
  | d :: ds, _, _, hd, h, r => by
    cases h with
    | cons h1 h2 =>
      cases r with
      | cons r1 r2 =>
        have e : d.plain = true ∧ PyData.plainAll ds = true := by simpa [PyData.plainAll] using hd
        obtain ⟨as, q1⟩ := At.reads I d _ _ e.1 h1 r1
        obtain ⟨bs, q2⟩ := AtL.reads I ds _ _ e.2 h2 r2
        exact ⟨_, ReadsAll.cons q1 q2⟩
end
end
end PD
end
section
set_option Elab.async false
set_option linter.all false
set_option maxRecDepth 100000
set_option maxHeartbeats 4000000
/-! PD2: the pure state of a body (slots, the hand's content), the judgements over it. -/
namespace PD
variable [TB]
open PySem PySem.Spec PyProof.Rows L2

/-- a slot: unknown; data (shared, never changed); data that this name alone holds; data that an outer frame holds; the hand -/
inductive Sl where
  | no | v (d : PyData) | m (d : PyData) | b (d : PyData) | h
structure PSt where
  G : List Sl
  hd : List PyData

/-- what stays through a body: the module's facts, the hand's place, the heap and the owned ones at the entry -/
structure Pm where
  ha : Option Addr
  H0 : Hp
  O0 : Ow
/-- a code object is no dict -/
theorem codeO_nt {c : Addr} {q : Str} (h : NT (some (LamX.CodeO c q))) : False := by
  obtain ⟨a, xs, e⟩ := h
  let o : Obj := { cls := .type "code", data := .fields #[.none, .str q 0] }
  let g : Heap := { objs := Array.replicate (c + 1) o }
  have at1 : ∀ b u, g.get? b = some u → u = o := fun b u z => by
    unfold Heap.get? at z
    have hb : g.objs[b]? = (Array.replicate (c + 1) o)[b]? := rfl
    rw [hb, Array.getElem?_replicate] at z
    by_cases n : b < c + 1
    · rw [if_pos n] at z
      exact (Option.some.inj z).symm
    · rw [if_neg n] at z
      cases z
  have h0 : g.get? c = some o := by
    unfold Heap.get?
    have hb : g.objs[c]? = (Array.replicate (c + 1) o)[c]? := rfl
    rw [hb, Array.getElem?_replicate, if_pos (Nat.lt_succ_self c)]
  have z : DxOk a xs g := by
    rw [← e]
    exact ⟨o, _, 0, h0, rfl, rfl⟩
  obtain ⟨_, _, _, u, es, ep, z1, _, z2, _⟩ := z
  rw [at1 a u z1] at z2
  cases z2
/-- a table of code objects -/
def Tb (a : Addr) : Prop := ∃ q ∈ TB.tb, q.1 = a
/-- the hand and the tables: what a call may change -/
def Pm.ex (p : Pm) (a : Addr) : Prop := p.ha = some a ∨ Tb a
/-- the tables are owned, and as they are to be -/
structure TbOk (O : Ow) (H : Hp) : Prop where
  own : ∀ q ∈ TB.tb, O q.1
  tab : LamX.Tabs TB.tb H

inductive Own (K : PySem.W.Frag) (O : Ow) (H : Hp) (a : Addr) : PyData → Prop
  | lst {xs : List V} {ds : List PyData} : H a = some (.lst xs) → AtL K O H xs ds → Own K O H a (.list ds)
  | dicK {kvs : List (Key × V)} {ds : List (PyData × PyData)} : H a = some (.dK kvs) → AtK K O H kvs ds → Own K O H a (dicD false ds)
  | dicT {kvs : List (List Key × Addr × Value)} {ds : List (PyData × PyData)} : H a = some (DxO a kvs) → AtT K O H kvs ds → Own K O H a (dicD true ds)
/-- .. a dict of which may be under a lock -/
inductive OwnR (K : PySem.W.Frag) (O : Ow) (H : Hp) (a : Addr) : PyData → Prop
  | lst {xs : List V} {ds : List PyData} : H a = some (.lst xs) → AtL K O H xs ds → OwnR K O H a (.list ds)
  | dicK {kvs : List (Key × V)} {ds : List (PyData × PyData)} : Rd H a (.dK kvs) → AtK K O H kvs ds → OwnR K O H a (dicD false ds)
  | dicT {kvs : List (List Key × Addr × Value)} {ds : List (PyData × PyData)} : Rd H a (DxO a kvs) → AtT K O H kvs ds → OwnR K O H a (dicD true ds)
theorem Own.r {K : PySem.W.Frag} {O : Ow} {H : Hp} {a : Addr} {d : PyData} (h : Own K O H a d) : OwnR K O H a d := by
  cases h with
  | lst q l => exact .lst q l
  | dicK q l => exact .dicK (.inl q) l
  | dicT q l => exact .dicT (.inl q) l
/-- a value to be read: data, or an owned one -/
def AtE (K : PySem.W.Frag) (O : Ow) (H : Hp) (v : V) (d : PyData) : Prop := At K O H v d ∨ ∃ a, v = .ref a ∧ OwnR K O H a d

def SlOk (K : PySem.W.Frag) (p : Pm) (O : Ow) (H : Hp) (x : Option (Option V)) : Sl → Prop
  | .no => True
  | .v d => ∃ y, x = some (some y) ∧ At K O H y d
  | .m d => ∃ a, x = some (some (.ref a)) ∧ O a ∧ p.H0 a = none ∧ ¬ p.ex a ∧ Own K O H a d
  | .b d => ∃ a, x = some (some (.ref a)) ∧ p.H0 a ≠ none ∧ ¬ p.ex a ∧ OwnR K O H a d
  | .h => ∃ a, p.ha = some a ∧ x = some (some (.ref a))

structure Rl (K : PySem.W.Frag) (p : Pm) (O : Ow) (σ : L2.St) (H : Hp) (s : PSt) : Prop where
  len : s.G.length = σ.length
  sl : ∀ (i : Nat) (S : Sl), s.G[i]? = some S → SlOk K p O H (σ[i]?) S
  inj : ∀ (i j : Nat) (d d' : PyData) (a : Addr), s.G[i]? = some (.m d) → s.G[j]? = some (.m d') → σ[i]? = some (some (.ref a)) → σ[j]? = some (some (.ref a)) → i = j
  hand : ∀ a, p.ha = some a → O a ∧ ∃ xs, H a = some (.lst xs) ∧ AtL K O H xs s.hd
  frm : ∀ a o, p.H0 a = some o → ¬ p.ex a → H a = some o
  dom : ∀ a, O a → NT (H a)
  o0 : ∀ a, p.O0 a → O a
  od : ∀ a, p.O0 a → p.H0 a ≠ none
  ob : ∀ a, O a → p.H0 a ≠ none → p.O0 a
  tbo : TbOk O H
theorem TbOk.at {O : Ow} {H : Hp} (h : TbOk O H) {a : Addr} (t : Tb a) : ∃ ps, H a = some (.tbl ps) := by
  obtain ⟨q, hq, rfl⟩ := t
  obtain ⟨ps, h1, _⟩ := h.tab q hq
  exact ⟨ps, h1⟩
theorem TbOk.ow {O : Ow} {H : Hp} (h : TbOk O H) {a : Addr} (t : Tb a) : O a := by
  obtain ⟨q, hq, rfl⟩ := t
  exact h.own q hq
/-- what is no table -/
theorem TbOk.no {O : Ow} {H : Hp} (h : TbOk O H) {a : Addr} {u : HO} (e : H a = some u) (n : ∀ ps, u ≠ .tbl ps) : ¬ Tb a := fun t => by
  obtain ⟨ps, h1⟩ := h.at t
  rw [e] at h1
  exact n ps (Option.some.inj h1)
theorem TbOk.none {O : Ow} {H : Hp} (h : TbOk O H) {a : Addr} (e : H a = .none) : ¬ Tb a := fun t => by
  obtain ⟨ps, h1⟩ := h.at t
  rw [e] at h1
  cases h1
/-- the tables stay, and what is not owned -/
theorem TbOk.to {O O' : Ow} {H H' : Hp} (h : TbOk O H) (dom : ∀ a, O a → NT (H a)) (st : ∀ a o, H a = some o → ¬ O a → H' a = some o) (same : ∀ a, Tb a → H' a = H a) (own : ∀ a, Tb a → O' a) : TbOk O' H' := by
  refine ⟨fun q hq => own q.1 ⟨q, hq, rfl⟩, fun q hq => ?_⟩
  obtain ⟨ps, h1, h2, h3⟩ := h.tab q hq
  refine ⟨ps, (same q.1 ⟨q, hq, rfl⟩).trans h1, h2, fun pos cv e => ?_⟩
  obtain ⟨c, e1, e2⟩ := h3 pos cv e
  exact ⟨c, e1, st c _ e2 fun o => by have := dom c o; rw [e2] at this; exact codeO_nt this⟩

section
variable {K : PySem.W.Frag} {p : Pm} {O O' : Ow} {σ : L2.St} {H H' : Hp} {s : PSt} {v : V} {d : PyData} {a : Addr}
theorem Own.some (h : Own K O H a d) : H a ≠ none := by
  cases h with
  | lst e _ => rw [e]; exact fun z => nomatch z
  | dicK e _ => rw [e]; exact fun z => nomatch z
  | dicT e _ => rw [e]; exact fun z => nomatch z
/-- the object itself stays, and what is not owned -/
theorem Own.to (k : Kp O H O' H') (e : H' a = H a) (h : Own K O H a d) : Own K O' H' a d := by
  cases h with
  | lst q l => exact .lst (e.trans q) (l.to k)
  | dicK q l => exact .dicK (e.trans q) (l.to k)
  | dicT q l => exact .dicT (e.trans q) (l.to k)
theorem Own.nt (h : Own K O H a d) : NT (H a) := by
  cases h with
  | lst e _ => rw [e]; exact True.intro
  | dicK e _ => rw [e]; exact True.intro
  | dicT e _ => rw [e]; exact ⟨_, _, rfl⟩
theorem OwnR.some (h : OwnR K O H a d) : H a ≠ none := by
  cases h with
  | lst e _ => rw [e]; exact fun z => nomatch z
  | dicK e _ => exact Rd.some e
  | dicT e _ => exact Rd.some e
theorem Rd.eq {H H' : Hp} {a : Addr} {u : HO} (e : H' a = H a) (r : Rd H a u) : Rd H' a u := by
  rcases r with r | ⟨o, r⟩
  · exact .inl (e.trans r)
  · exact .inr ⟨o, e.trans r⟩
theorem OwnR.to (k : Kp O H O' H') (e : H' a = H a) (h : OwnR K O H a d) : OwnR K O' H' a d := by
  cases h with
  | lst q l => exact .lst (e.trans q) (l.to k)
  | dicK q l => exact .dicK (Rd.eq e q) (l.to k)
  | dicT q l => exact .dicT (Rd.eq e q) (l.to k)
theorem OwnR.free (h : OwnR K O H a d) (n : ¬ O' a) (k : ∀ b, O' b → O b) : At K O' H (.ref a) d := by
  cases h with
  | lst q l => exact .lst ⟨n, q⟩ (l.to (Kp.less k))
  | dicK q l => exact .dicK n q (l.to (Kp.less k))
  | dicT q l => exact .dicT n q (l.to (Kp.less k))
/-- it is owned no more -/
theorem Own.free (h : Own K O H a d) (n : ¬ O' a) (k : ∀ b, O' b → O b) : At K O' H (.ref a) d := by
  cases h with
  | lst q l => exact .lst ⟨n, q⟩ (l.to (Kp.less k))
  | dicK q l => exact .dicK n (.inl q) (l.to (Kp.less k))
  | dicT q l => exact .dicT n (.inl q) (l.to (Kp.less k))
theorem AtE.at0 (h : AtE K O H v d) : At K (fun _ => False) H v d := by
  rcases h with h | ⟨a, rfl, h⟩
  · exact h.to (Kp.less fun _ z => z.elim)
  · exact h.free (fun z => z) (fun _ z => z.elim)

/-! ### a new object -/
theorem Rl.new {q : Addr} {o : HO} (r : Rl K p O σ H s) (hq : H q = none) : Rl K p O σ (upd H q o) s := by
  have k : Kp O H O (upd H q o) := Kp.new hq
  have stay : ∀ {b}, H b ≠ none → upd H q o b = H b := fun {b} n => upd_ne (fun e => n (by rw [e]; exact hq))
  refine ⟨r.len, fun i S e => ?_, r.inj, fun a e => ?_, fun a u e n => ?_, fun a z => by rw [stay (r.dom a z).ne]; exact r.dom a z, r.o0, r.od, r.ob, r.tbo.to r.dom k.st (fun a t => by obtain ⟨ps, e⟩ := r.tbo.at t; exact stay (by rw [e]; exact fun z => nomatch z)) fun a t => r.tbo.ow t⟩
  · have q1 := r.sl i S e
    cases S with
    | no => trivial
    | v d => obtain ⟨y, e1, e2⟩ := q1; exact ⟨y, e1, e2.to k⟩
    | m d => obtain ⟨a, e1, e2, e3, e4, e5⟩ := q1; exact ⟨a, e1, e2, e3, e4, e5.to k (stay e5.some)⟩
    | b d => obtain ⟨a, e1, e2, e3, e4⟩ := q1; exact ⟨a, e1, e2, e3, e4.to k (stay e4.some)⟩
    | h => exact q1
  · obtain ⟨e1, xs, e2, e3⟩ := r.hand a e
    refine ⟨e1, xs, ?_, e3.to k⟩
    rw [stay (by rw [e2]; exact fun z => nomatch z)]; exact e2
  · have := r.frm a u e n
    rw [stay (by rw [this]; exact fun z => nomatch z)]; exact this
/-- a new object, owned -/
def Ow.with (O : Ow) (q : Addr) : Ow := fun a => O a ∨ a = q
theorem Kp.newOwn {q : Addr} {o : HO} (hq : H q = none) : Kp O H (O.with q) (upd H q o) := ⟨fun a u e _ => by rw [upd_ne (ne_of_none e hq)]; exact e, fun a n h z => by
  rcases z with z | z
  · exact n z
  · subst z; exact h hq⟩
theorem Rl.newOwn {q : Addr} {o : HO} (r : Rl K p O σ H s) (hq : H q = none) (ho : NT (some o) := by exact True.intro) : Rl K p (O.with q) σ (upd H q o) s := by
  have k : Kp O H (O.with q) (upd H q o) := Kp.newOwn hq
  have stay : ∀ {b}, H b ≠ none → upd H q o b = H b := fun {b} n => upd_ne (fun e => n (by rw [e]; exact hq))
  refine ⟨r.len, fun i S e => ?_, r.inj, fun a e => ?_, fun a u e n => ?_, fun a z => ?_, fun a z => .inl (r.o0 a z), r.od, fun a z n => ?_, r.tbo.to r.dom k.st (fun a t => by obtain ⟨ps, e⟩ := r.tbo.at t; exact stay (by rw [e]; exact fun z => nomatch z)) fun a t => .inl (r.tbo.ow t)⟩
  · have q1 := r.sl i S e
    cases S with
    | no => trivial
    | v d => obtain ⟨y, e1, e2⟩ := q1; exact ⟨y, e1, e2.to k⟩
    | m d => obtain ⟨a, e1, e2, e3, e4, e5⟩ := q1; exact ⟨a, e1, .inl e2, e3, e4, e5.to k (stay e5.some)⟩
    | b d => obtain ⟨a, e1, e2, e3, e4⟩ := q1; exact ⟨a, e1, e2, e3, e4.to k (stay e4.some)⟩
    | h => exact q1
  · obtain ⟨e1, xs, e2, e3⟩ := r.hand a e
    refine ⟨.inl e1, xs, ?_, e3.to k⟩
    rw [stay (by rw [e2]; exact fun z => nomatch z)]; exact e2
  · have := r.frm a u e n
    rw [stay (by rw [this]; exact fun z => nomatch z)]; exact this
  · rcases z with z | z
    · rw [stay (r.dom a z).ne]; exact r.dom a z
    · subst z; rw [upd_same]; exact ho
  · rcases z with z | z
    · exact r.ob a z n
    · subst z
      cases e : p.H0 a with
      | none => exact absurd e n
      | some u =>
        by_cases hh : p.ex a
        · rcases hh with hh | hh
          · obtain ⟨_, xs, e2, _⟩ := r.hand a hh
            rw [hq] at e2; cases e2
          · exact absurd hh (r.tbo.none hq)
        · have := r.frm a u e hh
          rw [hq] at this; cases this
end

/-! ### judgements -/
/-- a pure expression: the state, what is wanted of the value and the state -/
abbrev PTE := PSt → (PyData → PSt → Prop) → Prop
def Mono (t : PTE) : Prop := ∀ s Q Q', (∀ d s', Q d s' → Q' d s') → t s Q → t s Q'
def lift (K : PySem.W.Frag) (t : PTE) : TE := fun σ H QV => ∃ p O s, Rl K p O σ H s ∧ t s fun d s' => ∀ v O' H', Rl K p O' σ H' s' → Kp O H O' H' → At K O' H' v d → QV v H'
/-- e's value is data, shared -/
structure DE (X : Cx) (e : Expr) (t : PTE) : Prop where
  pe : PE X e (lift X.K t)
  mono : Mono t
/-- the operand of a reading: data, or the slot that holds it -/
inductive Rv where
  | c (d : PyData) | s (i : Nat)
@[simp] def Sl.data : Sl → Option PyData
  | .v d => some d
  | .m d => some d
  | .b d => some d
  | _ => none
@[simp] def rd (s : PSt) : Rv → Option PyData
  | .c d => some d
  | .s i => s.G[i]?.bind Sl.data
abbrev PTL := PSt → (Rv → PSt → Prop) → Prop
def MonoL (t : PTL) : Prop := ∀ s Q Q', (∀ d s', Q d s' → Q' d s') → t s Q → t s Q'
def RvOk (K : PySem.W.Frag) (p : Pm) (O : Ow) (σ : L2.St) (H : Hp) (v : V) : Rv → Prop
  | .c d => At K O H v d
  | .s i => σ[i]? = some (some v)
def liftL (K : PySem.W.Frag) (t : PTL) : TE := fun σ H QV => ∃ p O s, Rl K p O σ H s ∧ t s fun d s' => ∀ v O' H', Rl K p O' σ H' s' → Kp O H O' H' → RvOk K p O' σ H' v d → QV v H'
structure DL (X : Cx) (e : Expr) (t : PTL) : Prop where
  pe : PE X e (liftL X.K t)
  mono : MonoL t
/-- e's value is new and held by nothing -/
def Lone (K : PySem.W.Frag) (p : Pm) (O : Ow) (σ : L2.St) (H : Hp) (s : PSt) (a : Addr) (d : PyData) : Prop :=
  O a ∧ p.H0 a = none ∧ ¬ p.ex a ∧ Own K O H a d ∧ ∀ (i : Nat) (d' : PyData), s.G[i]? = some (.m d') → σ[i]? ≠ some (some (.ref a))
def liftF (K : PySem.W.Frag) (t : PTE) : TE := fun σ H QV => ∃ p O s, Rl K p O σ H s ∧ t s fun d s' => ∀ a O' H', Rl K p O' σ H' s' → Kp O H O' H' → Lone K p O' σ H' s' a d → QV (.ref a) H'
structure DF (X : Cx) (e : Expr) (t : PTE) : Prop where
  pe : PE X e (liftF X.K t)
  mono : Mono t

theorem PE.weak {X : Cx} {e : Expr} {t t' : TE} (h : PE X e t) (w : ∀ σ H Q, t' σ H Q → t σ H Q) : PE X e t' := ⟨fun pins s σ H Q I q => h.run pins s σ H Q I (w _ _ _ q)⟩

section
variable {K : PySem.W.Frag} {X : Cx} {p : Pm} {O O' : Ow} {σ : L2.St} {H H' : Hp} {s : PSt} {v : V} {d : PyData} {a : Addr} {e : Expr} {t : PTE}
theorem RvOk.to {r : Rv} (k : Kp O H O' H') (h : RvOk K p O σ H v r) : RvOk K p O' σ H' v r := by
  cases r with
  | c d => exact At.to k h
  | s i => exact h
/-- what an operand reads as, now -/
theorem Rl.read {r : Rv} (R : Rl K p O σ H s) (h : RvOk K p O σ H v r) (e : rd s r = some d) : AtE K O H v d := by
  cases r with
  | c d' =>
    injection e with e
    subst e
    exact .inl h
  | s i =>
    have h : σ[i]? = some (some v) := h
    have e : s.G[i]?.bind Sl.data = some d := e
    cases q : s.G[i]? with
    | none => rw [q] at e; cases e
    | some S =>
      rw [q] at e
      have z := R.sl i S q
      rw [h] at z
      cases S with
      | no => cases e
      | v d' =>
        injection (show some d' = some d from e) with e; subst e
        obtain ⟨y, e1, e2⟩ := z
        cases e1
        exact .inl e2
      | m d' =>
        injection (show some d' = some d from e) with e; subst e
        obtain ⟨y, e1, _, _, _, e2⟩ := z
        cases e1
        exact .inr ⟨y, rfl, e2.r⟩
      | b d' =>
        injection (show some d' = some d from e) with e; subst e
        obtain ⟨y, e1, _, _, e2⟩ := z
        cases e1
        exact .inr ⟨y, rfl, e2⟩
      | h => cases e

/-- shared data as an operand -/
@[simp] def tOf (t : PTE) : PTL := fun s Q => t s fun d s' => Q (.c d) s'
theorem DE.dl (h : DE X e t) : DL X e (tOf t) :=
  ⟨PE.weak h.pe fun σ H Q ⟨p, O, s, r, q⟩ => ⟨p, O, s, r, h.mono _ _ _ (fun d s' k v O' H' r' kp a => k v O' H' r' kp a) q⟩,
    fun s Q Q' w q => h.mono _ _ _ (fun d s' => w (.c d) s') q⟩
/-- an owned one given up -/
def Ow.less (O : Ow) (a : Addr) : Ow := fun b => O b ∧ b ≠ a
theorem Rl.less (R : Rl K p O σ H s) (h0 : p.H0 a = none) (hh : ¬ p.ex a) (hm : ∀ (i : Nat) (d' : PyData), s.G[i]? = some (.m d') → σ[i]? ≠ some (some (.ref a))) : Rl K p (O.less a) σ H s := by
  have k : Kp O H (O.less a) H := Kp.less fun _ z => z.1
  refine ⟨R.len, fun i S e => ?_, R.inj, fun b e => ?_, R.frm, fun b z => R.dom b z.1, fun b z => ⟨R.o0 b z, fun e => R.od b z (by rw [e]; exact h0)⟩, R.od, fun b z n => R.ob b z.1 n, R.tbo.to R.dom (fun _ _ e _ => e) (fun _ _ => rfl) fun b t => ⟨R.tbo.ow t, fun z => hh (.inr (by rw [← z]; exact t))⟩⟩
  · have q := R.sl i S e
    cases S with
    | no => trivial
    | v d => obtain ⟨y, e1, e2⟩ := q; exact ⟨y, e1, e2.to k⟩
    | m d =>
      obtain ⟨b, e1, e2, e3, e4, e5⟩ := q
      refine ⟨b, e1, ⟨e2, fun z => hm i d e (by rw [e1, z])⟩, e3, e4, e5.to k rfl⟩
    | b d => obtain ⟨b, e1, e2, e3, e4⟩ := q; exact ⟨b, e1, e2, e3, e4.to k rfl⟩
    | h => exact q
  · obtain ⟨e1, xs, e2, e3⟩ := R.hand b e
    exact ⟨⟨e1, fun z => hh (.inl (by rw [← z]; exact e))⟩, xs, e2, e3.to k⟩
theorem DF.de (h : DF X e t) : DE X e t :=
  ⟨PE.weak h.pe fun σ H Q ⟨p, O, s, r, q⟩ => ⟨p, O, s, r, h.mono _ _ _ (fun d s' k a O' H' r' kp ⟨l1, l2, l3, l4, l5⟩ =>
      k (.ref a) (O'.less a) H' (r'.less l2 l3 l5) (kp.trans (Kp.less fun _ z => z.1)) (l4.free (fun z => z.2 rfl) fun _ z => z.1)) q⟩, h.mono⟩
end
end PD
end
section
set_option Elab.async false
set_option linter.all false
set_option maxRecDepth 100000
set_option maxHeartbeats 4000000
/-! PD3: constants, names, operators, comparisons over data. -/
namespace PD
variable [TB]
open PySem PySem.Spec PyProof.Rows L2

section
variable {K : PySem.W.Frag} {X : Cx} {p : Pm} {O O' : Ow} {σ : L2.St} {H H' : Hp} {s : PSt} {v : V} {d : PyData} {a : Addr}
theorem AtE.int {i : Int} (h : AtE K O H v (.int i)) : v = .int i := by
  rcases h with h | ⟨a, _, h⟩ <;> cases h
  rfl
theorem AtE.str {i : Str} (h : AtE K O H v (.str i)) : v = .str i := by
  rcases h with h | ⟨a, _, h⟩ <;> cases h
  rfl
theorem AtE.bl {i : Bool} (h : AtE K O H v (.bool i)) : v = .bl i := by
  rcases h with h | ⟨a, _, h⟩ <;> cases h
  rfl
theorem AtE.non (h : AtE K O H v .none) : v = .non := by
  rcases h with h | ⟨a, _, h⟩ <;> cases h
  rfl
theorem AtE.tup {ds : List PyData} (h : AtE K O H v (.tuple ds)) : ∃ a xs, v = .ref a ∧ SqTo K O H a xs ∧ AtL K O H xs ds := by
  rcases h with h | ⟨a, _, h⟩ <;> cases h
  rename_i a xs h1 h2
  exact ⟨a, xs, rfl, h1, h2⟩
theorem AtE.lst {ds : List PyData} (h : AtE K O H v (.list ds)) : ∃ a xs, v = .ref a ∧ H a = some (.lst xs) ∧ AtL K O H xs ds := by
  rcases h with h | ⟨a, rfl, h⟩
  · cases h with
    | lst h1 h2 => exact ⟨_, _, rfl, h1.2, h2⟩
  · cases h with
    | lst h1 h2 => exact ⟨_, _, rfl, h1, h2⟩
theorem At.tupI {K : PySem.W.Frag} {xs : List V} {ds : List PyData} {a : Addr} (h1 : SqTo K O H a xs) (h2 : AtL K O H xs ds) : At K O H (.ref a) (.tuple ds) := .tup h1 h2
/-- what is free is not owned -/
theorem Rl.nown {q : Addr} (R : Rl K p O σ H s) (hq : H q = none) : ¬ O q := fun z => (R.dom q z).ne hq
theorem Rl.fresh {q : Addr} (R : Rl K p O σ H s) (hq : H q = none) : p.H0 q = none ∧ ¬ p.ex q ∧ ∀ (i : Nat) (d' : PyData), s.G[i]? = some (.m d') → σ[i]? ≠ some (some (.ref q)) := by
  have hh : ¬ p.ex q := fun e => by
    rcases e with e | e
    · obtain ⟨_, xs, e2, _⟩ := R.hand q e
      rw [hq] at e2; cases e2
    · exact R.tbo.none hq e
  refine ⟨?_, hh, fun i d' e z => ?_⟩
  · cases e : p.H0 q with
    | none => rfl
    | some u => have := R.frm q u e hh; rw [hq] at this; cases this
  · obtain ⟨b, e1, e2, _⟩ := R.sl i _ e
    rw [z] at e1; cases e1
    exact (R.dom _ e2).ne hq
/-- a new list, tuple, as shared data -/
theorem fin_tup {q : Addr} {xs : List V} {ds : List PyData} {o : Obj} (R : Rl K p O σ H s) (hq : H q = none) (ho : o.dict = none) (l : AtL K O H xs ds) :
    Rl K p O σ (upd H q (.frz o (.tup xs))) s ∧ Kp O H O (upd H q (.frz o (.tup xs))) ∧ At K O (upd H q (.frz o (.tup xs))) (.ref q) (.tuple ds) :=
  ⟨R.new hq, Kp.new hq, .tup ⟨R.nown hq, o, ho, upd_same⟩ (l.to (Kp.new hq))⟩
theorem fin_lst {q : Addr} {xs : List V} {ds : List PyData} (R : Rl K p O σ H s) (hq : H q = none) (l : AtL K O H xs ds) :
    Rl K p O σ (upd H q (.lst xs)) s ∧ Kp O H O (upd H q (.lst xs)) ∧ At K O (upd H q (.lst xs)) (.ref q) (.list ds) :=
  ⟨R.new hq, Kp.new hq, .lst ⟨R.nown hq, upd_same⟩ (l.to (Kp.new hq))⟩
theorem fin_lone {q : Addr} {xs : List V} {ds : List PyData} (R : Rl K p O σ H s) (hq : H q = none) (l : AtL K O H xs ds) :
    Rl K p (O.with q) σ (upd H q (.lst xs)) s ∧ Kp O H (O.with q) (upd H q (.lst xs)) ∧ Lone K p (O.with q) σ (upd H q (.lst xs)) s q (.list ds) :=
  ⟨R.newOwn hq, Kp.newOwn hq, .inr rfl, (R.fresh hq).1, (R.fresh hq).2.1, .lst upd_same (l.to (Kp.newOwn hq)), (R.fresh hq).2.2⟩

/-! ### constants, names -/
variable {e a b c : Expr} {pos : Pos}
@[simp] def tK (d : PyData) : PTE := fun s Q => Q d s
theorem mono_K : Mono (tK d) := fun s Q Q' w q => w _ _ q
theorem de_const {v : V} (h : PE X e (tC v)) (w : ∀ O H, At X.K O H v d) : DE X e (tK d) :=
  ⟨PE.weak h fun σ H Q ⟨p, O, s, r, q⟩ => q v O H r .refl (w O H), mono_K⟩
theorem de_int {i : Int} {j} : DE X (.Constant (.int i) j pos) (tK (.int i)) := de_const pe_int fun _ _ => .int i
theorem de_str {i : Str} {j} : DE X (.Constant (.str i) j pos) (tK (.str i)) := de_const pe_str fun _ _ => .str i
theorem de_bl {i : Bool} {j} : DE X (.Constant (.bool i) j pos) (tK (.bool i)) := de_const pe_bl fun _ _ => .bl i
theorem de_non {j} : DE X (.Constant .none j pos) (tK .none) := de_const pe_non fun _ _ => .non
theorem de_gint {x : Str} {i : Int} (hg : Gl X x) {t : Tok} (hm : X.mg x = some (.int i t)) (hd : (x == ("__debug__" : Str)) = false := by decide) : DE X (.Name x pos) (tK (.int i)) := de_const (pe_glob hg hm (v := .int i) ⟨_, rfl⟩ hd) fun _ _ => .int i
theorem de_gstr {x : Str} {i : Str} (hg : Gl X x) {t : Tok} (hm : X.mg x = some (.str i t)) (hd : (x == ("__debug__" : Str)) = false := by decide) : DE X (.Name x pos) (tK (.str i)) := de_const (pe_glob hg hm (v := .str i) ⟨_, rfl⟩ hd) fun _ _ => .str i
/-- a slot, as an operand -/
@[simp] def tSl (i : Nat) : PTL := fun s Q => (∃ d, rd s (.s i) = some d) ∧ Q (.s i) s
theorem Rl.val {i : Nat} (R : Rl K p O σ H s) (h : ∃ d, rd s (.s i) = some d) : ∃ v, σ[i]? = some (some v) := by
  obtain ⟨d, e⟩ := h
  have e : s.G[i]?.bind Sl.data = some d := e
  cases q : s.G[i]? with
  | none => rw [q] at e; cases e
  | some S =>
    have z := R.sl i S q
    rw [q] at e
    cases S with
    | no => cases e
    | v d' => obtain ⟨y, e1, _⟩ := z; exact ⟨_, e1⟩
    | m d' => obtain ⟨y, e1, _⟩ := z; exact ⟨_, e1⟩
    | b d' => obtain ⟨y, e1, _⟩ := z; exact ⟨_, e1⟩
    | h => cases e
theorem dl_pe {i : Nat} (h : PE X e (tVar i)) : DL X e (tSl i) :=
  ⟨PE.weak h fun σ H Q ⟨p, O, s, r, q, k⟩ => by
    obtain ⟨v, e⟩ := r.val q
    exact ⟨v, e, k v O H r .refl e⟩, fun s Q Q' w q => ⟨q.1, w _ _ q.2⟩⟩
theorem dl_var (i : Nat) {x : Str} (hN : X.N[i]? = some x := by rfl) (hv : Vis X.env.scope x := by first | exact Or.inl rfl | exact Or.inr (Or.inl rfl) | exact Or.inr (Or.inr rfl)) (hd : (x == ("__debug__" : Str)) = false := by decide)
    (hcd : (x == ("__classdict__" : Str)) = false := by decide) : DL X (.Name x pos) (tSl i) := dl_pe (pv i hN hv hd hcd)
/-- a slot, as shared data: what the name alone held is held by it alone no more -/
@[simp] def tVr (i : Nat) : PTE := fun s Q => match s.G[i]? with
  | some (.v d) => Q d s
  | some (.m d) => Q d { s with G := s.G.set i (.v d) }
  | _ => False
theorem Rl.freeze {i : Nat} {a : Addr} (R : Rl K p O σ H s) (e : s.G[i]? = some (.m d)) (ea : σ[i]? = some (some (.ref a))) : Rl K p (O.less a) σ H { s with G := s.G.set i (.v d) } ∧ At K (O.less a) H (.ref a) d := by
  have k : Kp O H (O.less a) H := Kp.less fun _ z => z.1
  obtain ⟨a', e1, e2, e3, e4, e5⟩ := R.sl i _ e
  rw [ea] at e1; cases e1
  have ha : At K (O.less a) H (.ref a) d := e5.free (fun z => z.2 rfl) fun _ z => z.1
  have hi : i < s.G.length := (List.getElem?_eq_some_iff.mp e).1
  have other : ∀ (j : Nat) (d' : PyData), (s.G.set i (.v d))[j]? = some (.m d') → j ≠ i ∧ s.G[j]? = some (.m d') := fun j d' q => by
    by_cases hj : i = j
    · subst hj; rw [List.getElem?_set_self hi] at q; cases q
    · rw [List.getElem?_set_ne hj] at q; exact ⟨fun z => hj z.symm, q⟩
  refine ⟨⟨by rw [List.length_set]; exact R.len, fun j S q => ?_, fun j l d' d'' c q1 q2 => R.inj j l d' d'' c (other j d' q1).2 (other l d'' q2).2, fun c e => ?_, R.frm, fun c z => R.dom c z.1, fun c z => ⟨R.o0 c z, fun e => R.od c z (by rw [e]; exact e3)⟩, R.od, fun c z n => R.ob c z.1 n, R.tbo.to R.dom (fun _ _ e _ => e) (fun _ _ => rfl) fun b t => ⟨R.tbo.ow t, fun z => e4 (.inr (by rw [← z]; exact t))⟩⟩, ha⟩
  · by_cases hj : i = j
    · subst hj
      have q : (s.G.set i (.v d))[i]? = some S := q
      rw [List.getElem?_set_self hi] at q; cases q
      exact ⟨_, ea, ha⟩
    · have q : (s.G.set i (.v d))[j]? = some S := q
      rw [List.getElem?_set_ne hj] at q
      have z := R.sl j S q
      cases S with
      | no => trivial
      | v d => obtain ⟨y, e1, e2⟩ := z; exact ⟨y, e1, e2.to k⟩
      | m d' =>
        obtain ⟨c, q1, q2, q3, q4, q5⟩ := z
        exact ⟨c, q1, ⟨q2, fun z => hj (R.inj i j d d' a e q ea (by rw [q1, z]))⟩, q3, q4, q5.to k rfl⟩
      | b d' => obtain ⟨c, q1, q2, q3, q4⟩ := z; exact ⟨c, q1, q2, q3, q4.to k rfl⟩
      | h => exact z
  · obtain ⟨q1, xs, q2, q3⟩ := R.hand c e
    exact ⟨⟨q1, fun z => e4 (by rw [← z]; exact .inl e)⟩, xs, q2, q3.to k⟩
theorem de_pe {i : Nat} (h : PE X e (tVar i)) : DE X e (tVr i) := by
  refine ⟨PE.weak h fun σ H Q ⟨p, O, s, r, q⟩ => ?_, fun s Q Q' w q => ?_⟩
  · unfold tVr at q
    split at q
    · rename_i d e
      obtain ⟨y, e1, e2⟩ := r.sl i _ e
      exact ⟨y, e1, q y O H r .refl e2⟩
    · rename_i d e
      obtain ⟨a, e1, _⟩ := r.sl i _ e
      obtain ⟨r', ha⟩ := r.freeze e e1
      exact ⟨_, e1, q _ _ H r' (Kp.less fun _ z => z.1) ha⟩
    · exact q.elim
  · unfold tVr at q ⊢
    split at q
    · exact w _ _ q
    · exact w _ _ q
    · exact q.elim
theorem de_var (i : Nat) {x : Str} (hN : X.N[i]? = some x := by rfl) (hv : Vis X.env.scope x := by first | exact Or.inl rfl | exact Or.inr (Or.inl rfl) | exact Or.inr (Or.inr rfl)) (hd : (x == ("__debug__" : Str)) = false := by decide)
    (hcd : (x == ("__classdict__" : Str)) = false := by decide) : DE X (.Name x pos) (tVr i) := de_pe (pv i hN hv hd hcd)

/-! ### operators -/
def OpD (X : Cx) (g : Value → Value → Sem Value) (f : PyData → PyData → Option PyData) : Prop :=
  ∀ (p : Pm) (pins : List (Addr × Obj)) (sh : Shared) (σ : L2.St) (H : Hp) (O : Ow) (s : PSt) (x y : V) (v u : Value) (dx dy z : PyData) (QV : VK), Inv X pins σ H sh → Rl X.K p O σ H s → RelV x v → RelV y u →
    AtE X.K O H x dx → AtE X.K O H y dy → f dx dy = some z → (∀ w H', Rl X.K p O σ H' s → Kp O H O H' → At X.K O H' w z → QV w H') → wpAny (model X.prog X.w) X.A (g v u) (EP X pins σ QV) X.xe sh
/-- the reading of two operands -/
@[simp] def tBin (f : PyData → PyData → Option PyData) (ta tb : PTL) : PTE := fun s Q => ta s fun x s1 => tb s1 fun y s2 => ∃ dx dy z, rd s2 x = some dx ∧ rd s2 y = some dy ∧ f dx dy = some z ∧ Q z s2
theorem mono_bin {f : PyData → PyData → Option PyData} {ta tb : PTL} (ha : MonoL ta) (hb : MonoL tb) : Mono (tBin f ta tb) := fun s Q Q' w q =>
  ha _ _ _ (fun x s1 q1 => hb _ _ _ (fun y s2 ⟨dx, dy, z, e1, e2, e3, q2⟩ => ⟨dx, dy, z, e1, e2, e3, w _ _ q2⟩) q1) q
/-- two operands, then anything -/
theorem two {ta tb : PTL} {s : PSt} {T : V → V → Hp → Prop} {U : Rv → Rv → PSt → Prop} (ha : DL X a ta) (hb : DL X b tb) (R : Rl X.K p O σ H s) (q : ta s fun x s1 => tb s1 fun y s2 => U x y s2)
    (k : ∀ x y vx vy O' H' s', Rl X.K p O' σ H' s' → Kp O H O' H' → RvOk X.K p O' σ H' vx x → RvOk X.K p O' σ H' vy y → U x y s' → T vx vy H') :
    liftL X.K ta σ H fun x H1 => liftL X.K tb σ H1 fun y H2 => T x y H2 :=
  ⟨p, O, s, R, ha.mono _ _ _ (fun x s1 q1 vx O1 H1 R1 k1 a1 => ⟨p, O1, s1, R1, hb.mono _ _ _ (fun y s2 q2 vy O2 H2 R2 k2 a2 => k x y vx vy O2 H2 s2 R2 (k1.trans k2) (a1.to k2) a2 q2) q1⟩) q⟩
theorem de_op {op : Operator} {f : PyData → PyData → Option PyData} {ta tb : PTL} (ho : OpD X (binaryOp op) f) (ha : DL X a ta) (hb : DL X b tb) : DE X (.BinOp a op b pos) (tBin f ta tb) := by
  refine ⟨⟨fun pins sh σ H Q I h => ?_⟩, mono_bin ha.mono hb.mono⟩
  obtain ⟨p, O, s, R, q⟩ := h
  refine wpAny_BinOp (binT ha.pe hb.pe I (two (T := fun x y H2 => ∃ O' s' dx dy z, Rl X.K p O' σ H2 s' ∧ AtE X.K O' H2 x dx ∧ AtE X.K O' H2 y dy ∧ f dx dy = some z ∧ ∀ w H3, Rl X.K p O' σ H3 s' → Kp O' H2 O' H3 → At X.K O' H3 w z → Q w H3) ha hb R q ?_) fun v u s2 x y H2 I2 rx ry q2 => ?_)
  · rintro x y vx vy O' H' s' R' k' a1 a2 ⟨dx, dy, z, e1, e2, e3, q3⟩
    exact ⟨O', s', dx, dy, z, R', R'.read a1 e1, R'.read a2 e2, e3, fun w H3 R3 k3 a3 => q3 w O' H3 R3 (k'.trans k3) a3⟩
  · obtain ⟨O', s', dx, dy, z, R', a1, a2, e3, q3⟩ := q2
    exact ho p pins s2 σ H2 O' s' x y v u dx dy z Q I2 R' rx ry a1 a2 e3 q3

def addD : PyData → PyData → Option PyData
  | .int i, .int j => some (.int (i + j))
  | .str x, .str y => if x.length + y.length ≤ sizeLine then some (.str (x ++ y)) else none
  | .tuple xs, .tuple ys => if xs.length + ys.length ≤ sizeLine then some (.tuple (xs ++ ys)) else none
  | .list xs, .list ys => if xs.length + ys.length ≤ sizeLine then some (.list (xs ++ ys)) else none
  | _, _ => none
theorem op_addD : OpD X (binaryOp .Add) addD := by
  intro p pins sh σ H O s x y v u dx dy z Q I R rx ry ax ay e k
  unfold addD at e
  split at e
  · cases e
    cases ax.int; cases ay.int
    exact op_add pins sh σ H _ _ v u Q I rx ry ⟨_, _, rfl, rfl, k _ H R .refl (.int _)⟩
  · split at e
    · rename_i hz
      cases e
      cases ax.str; cases ay.str
      exact op_add_str pins sh σ H _ _ v u Q I rx ry ⟨_, _, rfl, rfl, hz, k _ H R .refl (.str _)⟩
    · cases e
  · split at e
    · rename_i xs ys hz
      cases e
      obtain ⟨a, vs, rfl, h1, h2⟩ := ax.tup
      obtain ⟨b, ws, rfl, h3, h4⟩ := ay.tup
      refine op_catN pins sh σ H _ _ v u Q I rx ry ⟨_, _, vs, ws, rfl, rfl, h1.sq, h3.sq, by rw [h2.len, h4.len]; exact hz, fun z => ?_, fun z => ?_, fun q o hq ho => ?_⟩
      · subst z; cases h2; exact k _ H R .refl (.tup h3 h4)
      · subst z; cases h4; rw [List.append_nil] at k; exact k _ H R .refl (.tup h1 h2)
      · obtain ⟨f1, f2, f3⟩ := fin_tup R hq ho (h2.append h4)
        exact k _ _ f1 f2 f3
    · cases e
  · split at e
    · rename_i xs ys hz
      cases e
      obtain ⟨a, vs, rfl, h1, h2⟩ := ax.lst
      obtain ⟨b, ws, rfl, h3, h4⟩ := ay.lst
      refine op_cat pins sh σ H _ _ v u Q I rx ry ⟨_, _, vs, ws, rfl, rfl, h1, h3, by rw [h2.len, h4.len]; exact hz, fun q hq => ?_⟩
      obtain ⟨f1, f2, f3⟩ := fin_lst R hq (h2.append h4)
      exact k _ _ f1 f2 f3
    · cases e
  · cases e
def subD : PyData → PyData → Option PyData
  | .int i, .int j => some (.int (i - j))
  | _, _ => none
theorem op_subD : OpD X (binaryOp .Sub) subD := by
  intro p pins sh σ H O s x y v u dx dy z Q I R rx ry ax ay e k
  unfold subD at e
  split at e
  · cases e
    cases ax.int; cases ay.int
    exact op_sub pins sh σ H _ _ v u Q I rx ry ⟨_, _, rfl, rfl, k _ H R .refl (.int _)⟩
  · cases e
/-- the i-th power of a row -/
def repD (n : Int) (ds : List PyData) : List PyData := (List.replicate n.toNat ds).flatten
theorem AtL.rep {xs : List V} {ds : List PyData} (h : AtL K O H xs ds) : ∀ n : Nat, AtL K O H (List.replicate n xs).flatten (List.replicate n ds).flatten
  | 0 => .nil
  | n + 1 => by
    rw [List.replicate_succ, List.replicate_succ, List.flatten_cons, List.flatten_cons]
    exact h.append (AtL.rep h n)
instance CMul.dec (i j : Int) : Decidable (CMul i j) := by unfold CMul; exact inferInstance
def mulD : PyData → PyData → Option PyData
  | .int i, .int j => if CMul i j then some (.int (i * j)) else none
  | .list xs, .int n => if -(2 ^ 63) ≤ n ∧ n < 2 ^ 63 ∧ xs.length * n.toNat ≤ sizeLine then some (.list (repD n xs)) else none
  | .tuple xs, .int n => if xs ≠ [] ∧ 2 ≤ n ∧ n ≤ 1000 ∧ xs.length ≤ 1000 then some (.tuple (repD n xs)) else none
  | _, _ => none
theorem op_mulD : OpD X (binaryOp .Mult) mulD := by
  intro p pins sh σ H O s x y v u dx dy z Q I R rx ry ax ay e k
  unfold mulD at e
  split at e
  · split at e
    · rename_i hc
      cases e
      cases ax.int; cases ay.int
      exact op_mul pins sh σ H _ _ v u Q I rx ry ⟨_, _, rfl, rfl, hc, k _ H R .refl (.int _)⟩
    · cases e
  · split at e
    · rename_i hz
      cases e
      obtain ⟨a, vs, rfl, h1, h2⟩ := ax.lst
      cases ay.int
      refine op_rep pins sh σ H _ _ v u Q I rx ry ⟨_, _, vs, rfl, rfl, h1, hz.1, hz.2.1, by rw [h2.len]; exact hz.2.2, fun q hq => ?_⟩
      obtain ⟨f1, f2, f3⟩ := fin_lst R hq (h2.rep _)
      exact k _ _ f1 f2 f3
    · cases e
  · split at e
    · rename_i hz
      cases e
      obtain ⟨a, vs, rfl, h1, h2⟩ := ax.tup
      cases ay.int
      refine op_repN pins sh σ H _ _ v u Q I rx ry ⟨_, _, vs, rfl, rfl, h1.sq, fun z => ?_, hz.2.1, hz.2.2.1, by rw [h2.len]; exact hz.2.2.2, fun q o hq ho => ?_⟩
      · subst z; cases h2; exact hz.1 rfl
      · obtain ⟨f1, f2, f3⟩ := fin_tup R hq ho (h2.rep _)
        exact k _ _ f1 f2 f3
    · cases e
  · cases e
def divD : PyData → PyData → Option PyData
  | .int i, .int j => if 0 < j ∧ j < 1073741824 then some (.int (i / j)) else none
  | _, _ => none
theorem op_divD : OpD X (binaryOp .FloorDiv) divD := by
  intro p pins sh σ H O s x y v u dx dy z Q I R rx ry ax ay e k
  unfold divD at e
  split at e
  · split at e
    · rename_i hc
      cases e
      cases ax.int; cases ay.int
      exact op_fdiv pins sh σ H _ _ v u Q I rx ry ⟨_, _, rfl, rfl, hc, k _ H R .refl (.int _)⟩
    · cases e
  · cases e
def modD : PyData → PyData → Option PyData
  | .int i, .int j => if 0 < j then some (.int (i % j)) else none
  | _, _ => none
theorem op_modD : OpD X (binaryOp .Mod) modD := by
  intro p pins sh σ H O s x y v u dx dy z Q I R rx ry ax ay e k
  unfold modD at e
  split at e
  · split at e
    · rename_i hc
      cases e
      cases ax.int; cases ay.int
      exact op_mod pins sh σ H _ _ v u Q I rx ry ⟨_, _, rfl, rfl, hc, k _ H R .refl (.int _)⟩
    · cases e
  · cases e
def powD : PyData → PyData → Option PyData
  | .int i, .int j => if 0 ≤ j ∧ j ≤ 1000000 ∧ i.natAbs < 2 ^ 64 then some (.int (i ^ j.toNat)) else none
  | _, _ => none
theorem op_powD : OpD X (binaryOp .Pow) powD := by
  intro p pins sh σ H O s x y v u dx dy z Q I R rx ry ax ay e k
  unfold powD at e
  split at e
  · split at e
    · rename_i hc
      cases e
      cases ax.int; cases ay.int
      exact op_pow pins sh σ H _ _ v u Q I rx ry ⟨_, _, rfl, rfl, hc, k _ H R .refl (.int _)⟩
    · cases e
  · cases e
end
end PD
end
section
set_option Elab.async false
set_option linter.all false
set_option maxRecDepth 100000
set_option maxHeartbeats 4000000
/-! PD4: comparisons, tests, displays, subscripts over data. -/
namespace PD
variable [TB]
open PySem PySem.Spec PyProof.Rows L2

/-- the key that data is -/
def keyOf : PyData → Option Key
  | .int i => some (.inl i)
  | .str x => some (.inr x)
  | _ => none
def keysAll : List PyData → Option (List Key)
  | [] => some []
  | d :: ds => (keyOf d).bind fun k => (keysAll ds).map (k :: ·)
def keysOf : PyData → Option (List Key)
  | .tuple ds => keysAll ds
  | _ => none
theorem keyOf_D {d : PyData} {k : Key} (h : keyOf d = some k) : d = keyD k := by
  unfold keyOf at h
  split at h <;> cases h <;> rfl
theorem keysAll_D : ∀ {ds : List PyData} {k : List Key}, keysAll ds = some k → ds = k.map keyD
  | [], _, h => by cases h; rfl
  | d :: ds, k, h => by
    unfold keysAll at h
    cases e : keyOf d with
    | none => rw [e] at h; cases h
    | some k0 =>
      cases e2 : keysAll ds with
      | none => rw [e, e2] at h; cases h
      | some ks =>
        rw [e, e2] at h
        cases h
        rw [List.map_cons, ← keyOf_D e, ← keysAll_D e2]
theorem keysOf_D {d : PyData} {k : List Key} (h : keysOf d = some k) : d = keysD k := by
  unfold keysOf at h
  split at h
  · rw [keysAll_D h]; rfl
  · cases h
theorem keyD_inj {k k' : Key} (h : keyD k = keyD k') : k = k' := by
  cases k <;> cases k' <;> cases h <;> rfl
theorem keyOf_keyD (k : Key) : keyOf (keyD k) = some k := by cases k <;> rfl
theorem keysAll_map : ∀ k : List Key, keysAll (k.map keyD) = some k
  | [] => rfl
  | k :: ks => by
    rw [List.map_cons]
    unfold keysAll
    rw [keyOf_keyD, keysAll_map ks]
    rfl
/-- what a dict of data has at a key -/
def lookD (k : PyData) : List (PyData × PyData) → Option PyData
  | [] => none
  | (k', d) :: r => if (keyOf k' = keyOf k ∧ keysOf k' = keysOf k) then some d else lookD k r
def putD (k d : PyData) : List (PyData × PyData) → List (PyData × PyData)
  | [] => [(k, d)]
  | (k', d') :: r => if (keyOf k' = keyOf k ∧ keysOf k' = keysOf k) then (k', d) :: r else (k', d') :: putD k d r

section
variable {K : PySem.W.Frag} {X : Cx} {p : Pm} {O O' : Ow} {σ : L2.St} {H H' : Hp} {s : PSt} {v : V} {d : PyData} {a : Addr}
theorem At.key {k : Key} (h : At K O H v (keyD k)) : v = kV k := by
  cases k <;> cases h <;> rfl
theorem AtL.keys : ∀ {k : List Key} {vs : List V}, AtL K O H vs (k.map keyD) → vs = k.map kV
  | [], _, h => by cases h; rfl
  | k :: ks, _, h => by
    rw [List.map_cons] at h
    cases h with
    | cons h1 h2 => rw [List.map_cons, h1.key, AtL.keys h2]
theorem AtK.look : ∀ {kvs : List (Key × V)} {ds : List (PyData × PyData)} {k : Key}, AtK K O H kvs ds → (∀ d, lookD (keyD k) ds = some d → ∃ v, valV kvs k = some v ∧ At K O H v d) ∧ (lookD (keyD k) ds = none → valV kvs k = none)
  | _, _, _, .nil => ⟨fun _ h => (by cases h), fun _ => rfl⟩
  | _, _, k, .cons (k := k') (v := v) (vs := vs) (d := d) (ds := ds) h1 h2 => by
    have ih := AtK.look (k := k) h2
    have e : (keyOf (keyD k') = keyOf (keyD k) ∧ keysOf (keyD k') = keysOf (keyD k)) ↔ k' = k := by
      rw [keyOf_keyD, keyOf_keyD]
      refine ⟨fun h => Option.some.inj h.1, fun h => by rw [h]; exact ⟨rfl, rfl⟩⟩
    unfold lookD valV
    by_cases hk : k' = k
    · rw [if_pos (e.mpr hk), List.find?_cons_of_pos (by simpa using hk)]
      exact ⟨fun d' z => by cases z; exact ⟨v, rfl, h1⟩, fun z => by cases z⟩
    · rw [if_neg (fun z => hk (e.mp z)), List.find?_cons_of_neg (by simpa using hk)]
      exact ih
theorem AtT.look : ∀ {kvs : List (List Key × Addr × Value)} {ds : List (PyData × PyData)} {k : List Key}, AtT K O H kvs ds → ∃ r : Option V, RelO r ((atKey kvs k).map (·.2)) ∧ (∀ d, lookD (keysD k) ds = some d → ∃ v, r = some v ∧ At K O H v d) ∧ (lookD (keysD k) ds = none → r = none)
  | _, _, _, .nil => ⟨none, True.intro, fun _ h => (by cases h), fun _ => rfl⟩
  | _, _, k, .cons (k := k') (v := v) (vs := vs) (d := d) (ds := ds) _ h0 h1 h2 => by
    obtain ⟨r, ih⟩ := AtT.look (k := k) h2
    have e : (keyOf (keysD k') = keyOf (keysD k) ∧ keysOf (keysD k') = keysOf (keysD k)) ↔ k' = k := by
      have q : ∀ k : List Key, keysOf (keysD k) = some k := fun k => keysAll_map k
      rw [q, q]
      refine ⟨fun h => Option.some.inj h.2, fun h => by rw [h]; exact ⟨rfl, rfl⟩⟩
    unfold lookD atKey
    by_cases hk : k' = k
    · rw [if_pos (e.mpr hk), List.find?_cons_of_pos (by simpa using hk)]
      exact ⟨some v, h0, fun d' z => by cases z; exact ⟨v, rfl, h1⟩, fun z => by cases z⟩
    · rw [if_neg (fun z => hk (e.mp z)), List.find?_cons_of_neg (by simpa using hk)]
      exact ⟨r, ih⟩
theorem AtT.keysAt : ∀ {kvs : List (List Key × Addr × Value)} {ds : List (PyData × PyData)}, AtT K O H kvs ds → ∀ q ∈ kvs, SqT K H q.2.1 (q.1.map kV)
  | _, _, .nil, _, h => nomatch h
  | _, _, .cons h0 _ _ t, q, h => by
    rcases List.mem_cons.mp h with e | h
    · subst e; exact h0.sq
    · exact AtT.keysAt t q h
/-- what stands as a dict -/
theorem AtE.dic {t : Bool} {ds : List (PyData × PyData)} (h : AtE K O H v (dicD t ds)) : ∃ a, v = .ref a ∧ ((t = false ∧ ∃ kvs, Rd H a (.dK kvs) ∧ AtK K O H kvs ds) ∨ (t = true ∧ ∃ kvs, Rd H a (DxO a kvs) ∧ AtT K O H kvs ds)) := by
  unfold dicD at h
  rcases h with h | ⟨a, rfl, h⟩
  · cases h with
    | dicK h1 h2 h3 => exact ⟨_, rfl, .inl ⟨rfl, _, h2, h3⟩⟩
    | dicT h1 h2 h3 => exact ⟨_, rfl, .inr ⟨rfl, _, h2, h3⟩⟩
  · cases h with
    | dicK h2 h3 => exact ⟨_, rfl, .inl ⟨rfl, _, h2, h3⟩⟩
    | dicT h2 h3 => exact ⟨_, rfl, .inr ⟨rfl, _, h2, h3⟩⟩
/-- a key that is fit for the dict: ints and texts for the one kind, tuples of these for the other -/
def keyFits (t : Bool) (k : PyData) : Bool := if t then (keysOf k).isSome else (keyOf k).isSome
theorem keyOf_some {d : PyData} (h : (keyOf d).isSome = true) : ∃ k, d = keyD k := by
  cases e : keyOf d with
  | none => rw [e] at h; cases h
  | some k => exact ⟨k, keyOf_D e⟩
theorem keysOf_some {d : PyData} (h : (keysOf d).isSome = true) : ∃ k, d = keysD k := by
  cases e : keysOf d with
  | none => rw [e] at h; cases h
  | some k => exact ⟨k, keysOf_D e⟩
theorem keyD_keys {k : Key} : ¬ (keysOf (keyD k)).isSome = true := by cases k <;> exact fun h => nomatch h
theorem keysD_key {k : List Key} : ¬ (keyOf (keysD k)).isSome = true := fun h => nomatch h
theorem AtE.keyV {k : Key} {y : V} (hk : AtE K O H y (keyD k)) : y = kV k := by
  rcases hk with hk | ⟨b, _, hk⟩
  · exact hk.key
  · cases k <;> cases hk
theorem AtE.keysV {k : List Key} {y : V} (hk : AtE K O H y (keysD k)) : ∃ b, y = .ref b ∧ SqTo K O H b (k.map kV) := by
  obtain ⟨b, xs, rfl, hb, hl⟩ := hk.tup
  have hx : xs = k.map kV := hl.keys
  subst hx
  exact ⟨b, rfl, hb⟩
/-- the walk's program and world are those of the tables -/
abbrev SameW (X : Cx) : Prop := TB.prog = X.prog ∧ TB.w = X.w
/-- what the dict at a holds at the key y -/
def DGo (K : PySem.W.Frag) (H : Hp) (a : Addr) (y : V) (r : Option V) : Prop :=
  DGet H a y r ∨ ∃ xs k b, Rd H a (DxO a xs) ∧ (∀ q ∈ xs, SqT K H q.2.1 (q.1.map kV)) ∧ y = .ref b ∧ SqT K H b (k.map kV) ∧ RelO r ((atKey xs k).map (·.2))
theorem AtE.dget {t : Bool} {k : PyData} {y : V} {ds : List (PyData × PyData)} (h : AtE K O H v (dicD t ds)) (hk : AtE K O H y k) (f : keyFits t k = true) :
    ∃ a o, v = .ref a ∧ DGo K H a y o ∧ (∀ d, lookD k ds = some d → ∃ w, o = some w ∧ At K O H w d) ∧ (lookD k ds = none → o = none) := by
  obtain ⟨a, rfl, hd⟩ := h.dic
  rcases hd with ⟨rfl, kvs, h1, h2⟩ | ⟨rfl, kvs, h1, h2⟩
  · obtain ⟨k', rfl⟩ := keyOf_some (show (keyOf k).isSome = true from f)
    cases hk.keyV
    exact ⟨a, _, rfl, .inl (.inl ⟨kvs, _, h1, rfl, rfl⟩), h2.look.1, h2.look.2⟩
  · obtain ⟨k', rfl⟩ := keysOf_some (show (keysOf k).isSome = true from f)
    obtain ⟨b, rfl, hb⟩ := hk.keysV
    obtain ⟨r, l1, l2, l3⟩ := h2.look (k := k')
    exact ⟨a, r, rfl, .inr ⟨kvs, _, b, h1, h2.keysAt, rfl, hb.sq, l1⟩, l2, l3⟩
section
variable {pins : List (Addr × Obj)} {sh : Shared} {A : Around} {E : Value → Shared → Prop} {xs : List (List Key × Addr × Value)} {y : V} {u : Value} {r : Option V}
theorem dx_rd (I : Inv X pins σ H sh) (e : Rd H a (DxO a xs)) : DxOk a xs sh.heap := by
  rcases e with e | ⟨o, e⟩
  · exact (I.hok a _ e).1
  · exact (I.hok a _ e).2.1
theorem dx_is {b : Addr} {k : List Key} (I : Inv X pins σ H sh) (q : SqT X.K H b (k.map kV)) : (tupleKind (mixKind X.prog X.w)).is sh.heap k b := by
  obtain ⟨its, rv, ⟨o, h1, h2, n, h3⟩, _⟩ := I.tuple q
  exact ⟨o, its.toArray, n, h1, h2, h3, by simpa using items_are rv⟩
theorem dx_dict (hW : SameW X) (I : Inv X pins σ H sh) (e : Rd H a (DxO a xs)) (ks : ∀ q ∈ xs, SqT X.K H q.2.1 (q.1.map kV)) : xs.length ≤ sizeLine ∧ (a == sysModules) = false ∧ sh.heap.DictOfH (tupleKind (mixKind X.prog X.w)) a xs := by
  obtain ⟨z, hd, nd, o, es, ep, h1, h2, h3, h4⟩ := dx_rd I e
  rw [hW.1, hW.2] at h4
  exact ⟨z, hd, o, es, ep, h1, h2, h3, h4, fun x hx => dx_is I (ks x hx), nd⟩
theorem dx_stab {xs : List (List Key × Addr × Value)} {g1 g2 : Heap} (z : DxOk a xs g1) (k : ∀ o, g1.get? a = some o → g2.get? a = some o) : DxOk a xs g2 := by
  obtain ⟨z1, z2, z3, o, es, ep, z4, z5⟩ := z
  exact ⟨z1, z2, z3, o, es, ep, k o z4, z5⟩
theorem dx_obj {g : Heap} {H' : Hp} (hW : SameW X) (z : xs.length ≤ sizeLine) (hd : (a == sysModules) = false) (dd : g.DictOfH (tupleKind (mixKind X.prog X.w)) a xs) : ObjOk X.prog X.w H' g a (DxO a xs) := by
  obtain ⟨o, es, ep, h1, h2, h3, h4, _, h5⟩ := dd
  rw [← hW.1, ← hW.2] at h4
  exact ⟨⟨z, hd, h5, o, es, ep, h1, h2, h3, h4⟩, ⟨o, h1⟩, fun g1 g2 z k => dx_stab z k⟩
theorem dgo_typeIs (I : Inv X pins σ H sh) (g : DGo X.K H a y r) : sh.TypeIs (.ref a) "dict" := by
  rcases g with g | ⟨xs, k, b, e, _⟩
  · exact dict_typeIs I g
  · obtain ⟨_, _, _, o, es, ep, h1, h2, _⟩ := dx_rd I e
    exact ⟨o, h1, h2.1⟩
/-- {} for tuples as keys -/
theorem pe_dnewX {pos : Pos} : PE X (.Dict [] [] pos) (fun _ H Q => ∀ p, H p = none → Q (.ref p) (upd H p (DxO p []))) :=
  ⟨fun pins s σ H Q I q => wpAny_Dict_empty ⟨.ref s.heap.objs.size, _, I.laid (a := s.heap.objs.size) (o := DxO s.heap.objs.size []) (t' := s.toks) (fun _ _ e => Heap.get?_push_of_some _ e) (Nat.le_refl _)
    ⟨⟨Nat.zero_le _, beq_eq_false_iff_ne.mpr (Ne.symm (Nat.ne_of_lt I.big)), List.nodup_nil, _, #[], 0, Heap.get?_push_size _ rfl, ⟨rfl, rfl, rfl⟩, rfl, rfl⟩, ⟨_, Heap.get?_push_size _ rfl⟩, fun g1 g2 z k => dx_stab z k⟩, rfl, q _ (I.hok.fresh (Nat.le_refl _))⟩⟩
theorem dgo_item {Q : Value → Shared → Prop} (hu : A.units + 1 < cLine) (hW : SameW X) (I : Inv X pins σ H sh) (g : DGo X.K H a y (some v)) (ry : RelV y u) (h : ∀ w' s', Inv X pins σ H s' → RelV v w' → Q w' s') :
    wpAny (model X.prog X.w) A (getItem (.ref a) u) Q E sh := by
  rcases g with g | ⟨xs, k, b, e, ks, rfl, eb, l⟩
  · exact d_getItem hu I g ry h
  · cases ry
    obtain ⟨_, hd, dd⟩ := dx_dict hW I e ks
    obtain ⟨w', hw, rw'⟩ := RelO.some_of l
    obtain ⟨q, hq, hq2⟩ := Option.map_eq_some_iff.mp hw
    exact wpAny_getItem_heap (tupleKind_room_in1 hu) (dx_is I eb) dd hq (by rw [hq2]; exact h w' _ (I.tok _) rw')
theorem dgo_in {Q : Value → Shared → Prop} (hu : A.units + 1 < cLine) (hW : SameW X) (I : Inv X pins σ H sh) (g : DGo X.K H a y r) (ry : RelV y u) (h : ∀ s', Inv X pins σ H s' → Q (.bool r.isSome) s') :
    wpAny (model X.prog X.w) A (compareOp .In u (.ref a)) Q E sh := by
  rcases g with g | ⟨xs, k, b, e, ks, rfl, eb, l⟩
  · exact d_in hu I g ry h
  · cases ry
    obtain ⟨_, hd, dd⟩ := dx_dict hW I e ks
    have n := l.isSome_eq
    rw [Option.isSome_map] at n
    exact wpAny_in_heap (tupleKind_room_in1 hu) (dx_is I eb) hd dd (by rw [← n]; exact h _ (I.tok _))
theorem dgo_notIn {Q : Value → Shared → Prop} (hu : A.units + 1 < cLine) (hW : SameW X) (I : Inv X pins σ H sh) (g : DGo X.K H a y r) (ry : RelV y u) (h : ∀ s', Inv X pins σ H s' → Q (.bool (!r.isSome)) s') :
    wpAny (model X.prog X.w) A (compareOp .NotIn u (.ref a)) Q E sh := by
  rcases g with g | ⟨xs, k, b, e, ks, rfl, eb, l⟩
  · exact d_notIn hu I g ry h
  · cases ry
    obtain ⟨_, hd, dd⟩ := dx_dict hW I e ks
    have n := l.isSome_eq
    rw [Option.isSome_map] at n
    exact wpAny_notIn_heap (tupleKind_room_in1 hu) (dx_is I eb) hd dd (by rw [← n]; exact h _ (I.tok _))
theorem dgo_get2 {d : V} {dv : Value} {Q : Value → Shared → Prop} (hu : A.units + 1 < cLine) (hW : SameW X) (I : Inv X pins σ H sh) (g : DGo X.K H a y r) (ry : RelV y u) (rd : RelV d dv) (h : ∀ w' s', Inv X pins σ H s' → RelV (r.getD d) w' → Q w' s') :
    wpAny (model X.prog X.w) A (call (.builtin "dict.get") [.ref a, u, dv]) Q E sh := by
  rcases g with g | ⟨xs, k, b, e, ks, rfl, eb, l⟩
  · exact d_get2 hu I g ry rd h
  · cases ry
    obtain ⟨_, hd, dd⟩ := dx_dict hW I e ks
    refine call_meetsIn PySem.F.slot_dict_get dd.typeIs PySem.F.entry_dict_get (PySem.F.args_dict_get_3 _ _ _) (meetsH_dict_get_default (tupleKind (mixKind X.prog X.w)) a b hd dv) ⟨tupleKind_room_in1 hu, k, xs, dx_is I eb, dd, h _ _ (I.tok _) ?_⟩
    exact l.getD rd
end

/-! ### comparisons -/
variable {e b c : Expr} {pos : Pos}
theorem de_cmp {op : CmpOp} {f : PyData → PyData → Option PyData} {ta tb : PTL} {a : Expr} (ho : OpD X (compareOp op) f) (ha : DL X a ta) (hb : DL X b tb)
    (hm : behindInMarks op b = false := by first | exact nomark _ | rfl) : DE X (.Compare a [op] [b] pos) (tBin f ta tb) := by
  refine ⟨⟨fun pins sh σ H Q I h => ?_⟩, mono_bin ha.mono hb.mono⟩
  obtain ⟨p, O, s, R, q⟩ := h
  refine wpAny_Compare1 (binT ha.pe hb.pe I (two (T := fun x y H2 => ∃ O' s' dx dy z, Rl X.K p O' σ H2 s' ∧ AtE X.K O' H2 x dx ∧ AtE X.K O' H2 y dy ∧ f dx dy = some z ∧ ∀ w H3, Rl X.K p O' σ H3 s' → Kp O' H2 O' H3 → At X.K O' H3 w z → Q w H3) ha hb R q ?_) fun v u s2 x y H2 I2 rx ry q2 => ?_) hm
  · rintro x y vx vy O' H' s' R' k' a1 a2 ⟨dx, dy, z, e1, e2, e3, q3⟩
    exact ⟨O', s', dx, dy, z, R', R'.read a1 e1, R'.read a2 e2, e3, fun w H3 R3 k3 a3 => q3 w O' H3 R3 (k'.trans k3) a3⟩
  · obtain ⟨O', s', dx, dy, z, R', a1, a2, e3, q3⟩ := q2
    exact ho p pins s2 σ H2 O' s' x y v u dx dy z Q I2 R' rx ry a1 a2 e3 q3
end
end PD
end
section
set_option Elab.async false
set_option linter.all false
set_option maxRecDepth 100000
set_option maxHeartbeats 4000000
/-! PD5: comparison operators over data; tests; and, or, not; displays; subscripts. -/
namespace PD
variable [TB]
open PySem PySem.Spec PyProof.Rows L2

section
variable {K : PySem.W.Frag} {X : Cx} {p : Pm} {O O' : Ow} {σ : L2.St} {H H' : Hp} {s : PSt} {v : V} {d : PyData} {a : Addr}
theorem AtE.rds {pins : List (Addr × Obj)} {sh : Shared} {u : Value} (I : Inv X pins σ H sh) (h : AtE X.K O H v d) (hp : d.plain = true) (r : RelV v u) : ∃ as, Reads sh.heap u d as := At.reads I d v u hp h.at0 r
theorem At.rds {pins : List (Addr × Obj)} {sh : Shared} {u : Value} (I : Inv X pins σ H sh) (h : At X.K O H v d) (hp : d.plain = true) (r : RelV v u) : ∃ as, Reads sh.heap u d as := At.reads I d v u hp h r

theorem min60 {A : Around} {m : Nat} (hu : A.units + 64 < cLine) (h : m ≤ 60) : A.units + m < cLine := by omega
theorem min61 {A : Around} {m : Nat} (hu : A.units + 64 < cLine) (h : m ≤ 60) : A.units + 1 + m < cLine := by omega
def okEq (dx dy : PyData) : Bool := dx.plain && dy.plain && decide (min dx.depth dy.depth ≤ 60)
def eqD (dx dy : PyData) : Option PyData := if okEq dx dy then some (.bool (PyData.eqv dx dy)) else none
def neD (dx dy : PyData) : Option PyData := if okEq dx dy then some (.bool (!PyData.eqv dx dy)) else none
theorem okEq_of {dx dy : PyData} (h : okEq dx dy = true) : dx.plain = true ∧ dy.plain = true ∧ min dx.depth dy.depth ≤ 60 := by
  unfold okEq at h
  simp only [Bool.and_eq_true, decide_eq_true_eq] at h
  exact ⟨h.1.1, h.1.2, h.2⟩
theorem op_eqP (hu : X.A.units + 64 < cLine) : OpD X (compareOp .Eq) eqD := by
  intro p pins sh σ H O s x y v u dx dy z Q I R rx ry ax ay e k
  unfold eqD at e
  split at e
  · rename_i ok
    cases e
    obtain ⟨p1, p2, p3⟩ := okEq_of ok
    obtain ⟨as, r1⟩ := ax.rds I p1 rx
    obtain ⟨bs, r2⟩ := ay.rds I p2 ry
    exact SeqAt.eq_plain r1 r2 p1 p2 (min60 hu p3) ⟨.bl _, H, I, rfl, k _ H R .refl (.bl _)⟩
  · cases e
theorem op_neP (hu : X.A.units + 64 < cLine) : OpD X (compareOp .NotEq) neD := by
  intro p pins sh σ H O s x y v u dx dy z Q I R rx ry ax ay e k
  unfold neD at e
  split at e
  · rename_i ok
    cases e
    obtain ⟨p1, p2, p3⟩ := okEq_of ok
    obtain ⟨as, r1⟩ := ax.rds I p1 rx
    obtain ⟨bs, r2⟩ := ay.rds I p2 ry
    exact SeqAt.ne_plain r1 r2 p1 p2 (min60 hu p3) ⟨.bl _, H, I, rfl, k _ H R .refl (.bl _)⟩
  · cases e
def okLt (dx dy : PyData) : Bool := dx.plain && dy.plain && PySem.W.alike dx dy && (match dx with | .none => false | _ => true) && decide (min dx.depth dy.depth ≤ 60)
theorem okLt_of {dx dy : PyData} (h : okLt dx dy = true) : dx.plain = true ∧ dy.plain = true ∧ PySem.W.alike dx dy = true ∧ dx ≠ .none ∧ min dx.depth dy.depth ≤ 60 := by
  unfold okLt at h
  simp only [Bool.and_eq_true, decide_eq_true_eq] at h
  refine ⟨h.1.1.1.1, h.1.1.1.2, h.1.1.2, ?_, h.2⟩
  intro e
  rw [e] at h
  exact Bool.false_ne_true h.1.2
def ltD (dx dy : PyData) : Option PyData := if okLt dx dy then some (.bool (PySem.W.dataLt dx dy)) else none
def gtD (dx dy : PyData) : Option PyData := if okLt dx dy then some (.bool (PySem.W.dataLt dy dx)) else none
def leD (dx dy : PyData) : Option PyData := if okLt dx dy then some (.bool (!PySem.W.dataLt dy dx)) else none
def geD (dx dy : PyData) : Option PyData := if okLt dx dy then some (.bool (!PySem.W.dataLt dx dy)) else none
theorem op_ltP (hu : X.A.units + 64 < cLine) : OpD X (compareOp .Lt) ltD := by
  intro p pins sh σ H O s x y v u dx dy z Q I R rx ry ax ay e k
  unfold ltD at e
  split at e
  · rename_i ok
    cases e
    obtain ⟨p1, p2, p3, p4, p5⟩ := okLt_of ok
    obtain ⟨as, r1⟩ := ax.rds I p1 rx
    obtain ⟨bs, r2⟩ := ay.rds I p2 ry
    exact PySem.W.lt_data r1 r2 p3 p4 (min60 hu p5) ⟨.bl _, H, I, rfl, k _ H R .refl (.bl _)⟩
  · cases e
theorem op_gtP (hu : X.A.units + 64 < cLine) : OpD X (compareOp .Gt) gtD := by
  intro p pins sh σ H O s x y v u dx dy z Q I R rx ry ax ay e k
  unfold gtD at e
  split at e
  · rename_i ok
    cases e
    obtain ⟨p1, p2, p3, p4, p5⟩ := okLt_of ok
    obtain ⟨as, r1⟩ := ax.rds I p1 rx
    obtain ⟨bs, r2⟩ := ay.rds I p2 ry
    exact PySem.W.gt_data r1 r2 p3 p4 (min60 hu p5) ⟨.bl _, H, I, rfl, k _ H R .refl (.bl _)⟩
  · cases e
theorem op_leP (hu : X.A.units + 64 < cLine) : OpD X (compareOp .LtE) leD := by
  intro p pins sh σ H O s x y v u dx dy z Q I R rx ry ax ay e k
  unfold leD at e
  split at e
  · rename_i ok
    cases e
    obtain ⟨p1, p2, p3, p4, p5⟩ := okLt_of ok
    obtain ⟨as, r1⟩ := ax.rds I p1 rx
    obtain ⟨bs, r2⟩ := ay.rds I p2 ry
    exact PySem.W.le_data r1 r2 p3 p4 (min60 hu p5) ⟨.bl _, H, I, rfl, k _ H R .refl (.bl _)⟩
  · cases e
theorem op_geP (hu : X.A.units + 64 < cLine) : OpD X (compareOp .GtE) geD := by
  intro p pins sh σ H O s x y v u dx dy z Q I R rx ry ax ay e k
  unfold geD at e
  split at e
  · rename_i ok
    cases e
    obtain ⟨p1, p2, p3, p4, p5⟩ := okLt_of ok
    obtain ⟨as, r1⟩ := ax.rds I p1 rx
    obtain ⟨bs, r2⟩ := ay.rds I p2 ry
    exact PySem.W.ge_data r1 r2 p3 p4 (min60 hu p5) ⟨.bl _, H, I, rfl, k _ H R .refl (.bl _)⟩
  · cases e
/-- x in c -/
def okIn (xs : List PyData) (d : PyData) : Bool := PyData.plainAll xs && d.plain && decide (min (PyData.depthAll xs) d.depth ≤ 60)
theorem okIn_of {xs : List PyData} {d : PyData} (h : okIn xs d = true) : PyData.plainAll xs = true ∧ d.plain = true ∧ min (PyData.depthAll xs) d.depth ≤ 60 := by
  unfold okIn at h
  simp only [Bool.and_eq_true, decide_eq_true_eq] at h
  exact ⟨h.1.1, h.1.2, h.2⟩
def isIn (dx : PyData) : PyData → Option Bool
  | .list xs => if okIn xs dx then some (xs.any fun y => PyData.eqv y dx) else none
  | .tuple xs => if okIn xs dx then some (xs.any fun y => PyData.eqv y dx) else none
  | .str y => match dx with
    | .str x => some (!(Builtin.Str.occurrences y x 0 y.length 1).isEmpty)
    | _ => none
  | .dict ((.bool t, .none) :: ds) => if keyFits t dx then some (lookD dx ds).isSome else none
  | _ => none
def inD (dx dy : PyData) : Option PyData := (isIn dx dy).map .bool
def notInD (dx dy : PyData) : Option PyData := (isIn dx dy).map fun b => .bool !b
theorem hu1 {A : Around} (hu : A.units + 64 < cLine) : A.units + 1 < cLine := by omega
theorem op_inP (hu : X.A.units + 64 < cLine) (hW : SameW X) : OpD X (compareOp .In) inD := by
  intro p pins sh σ H O s x y v u dx dy z Q I R rx ry ax ay e k
  unfold inD at e
  cases ei : isIn dx dy with
  | none => rw [ei] at e; cases e
  | some b =>
    rw [ei] at e
    cases e
    have fin : EP X pins σ Q (.bool b) sh := ⟨.bl _, H, I, rfl, k _ H R .refl (.bl _)⟩
    unfold isIn at ei
    split at ei
    · split at ei
      · rename_i ok
        cases ei
        obtain ⟨p1, p2, p3⟩ := okIn_of ok
        obtain ⟨as, r1⟩ := ay.rds I (by simpa [PyData.plain] using p1) ry
        obtain ⟨bs, r2⟩ := ax.rds I p2 rx
        exact SeqAt.in_list_data r1 r2 p1 p2 (min61 hu p3) fin
      · cases ei
    · split at ei
      · rename_i ok
        cases ei
        obtain ⟨p1, p2, p3⟩ := okIn_of ok
        obtain ⟨as, r1⟩ := ay.rds I (by simpa [PyData.plain] using p1) ry
        obtain ⟨bs, r2⟩ := ax.rds I p2 rx
        exact SeqAt.in_tuple_data r1 r2 p1 p2 (min61 hu p3) fin
      · cases ei
    · split at ei
      · cases ei
        cases ax.str; cases ay.str
        exact op_in_str pins sh σ H _ _ v u Q I rx ry ⟨_, _, rfl, rfl, k _ H R .refl (.bl _)⟩
      · cases ei
    · split at ei
      · rename_i t ds f
        cases ei
        obtain ⟨a, o, rfl, g, g1, g2⟩ := AtE.dget ay ax f
        obtain rfl : u = Value.ref a := ry
        have eo : o.isSome = (lookD dx ds).isSome := by
          cases el : lookD dx ds with
          | none => rw [g2 el]; rfl
          | some d => obtain ⟨w, q, _⟩ := g1 d el; rw [q]; rfl
        rw [← eo] at k
        exact dgo_in (hu1 hu) hW I g rx fun s3 I3 => ⟨.bl o.isSome, H, I3, rfl, k _ H R .refl (.bl _)⟩
      · cases ei
    · cases ei
theorem op_notInP (hu : X.A.units + 64 < cLine) (hW : SameW X) : OpD X (compareOp .NotIn) notInD := by
  intro p pins sh σ H O s x y v u dx dy z Q I R rx ry ax ay e k
  unfold notInD at e
  cases ei : isIn dx dy with
  | none => rw [ei] at e; cases e
  | some b =>
    rw [ei] at e
    cases e
    have fin : EP X pins σ Q (.bool !b) sh := ⟨.bl _, H, I, rfl, k _ H R .refl (.bl _)⟩
    unfold isIn at ei
    split at ei
    · split at ei
      · rename_i ok
        cases ei
        obtain ⟨p1, p2, p3⟩ := okIn_of ok
        obtain ⟨as, r1⟩ := ay.rds I (by simpa [PyData.plain] using p1) ry
        obtain ⟨bs, r2⟩ := ax.rds I p2 rx
        exact SeqAt.notIn_list_data r1 r2 p1 p2 (min61 hu p3) fin
      · cases ei
    · split at ei
      · rename_i ok
        cases ei
        obtain ⟨p1, p2, p3⟩ := okIn_of ok
        obtain ⟨as, r1⟩ := ay.rds I (by simpa [PyData.plain] using p1) ry
        obtain ⟨bs, r2⟩ := ax.rds I p2 rx
        exact SeqAt.notIn_tuple_data r1 r2 p1 p2 (min61 hu p3) fin
      · cases ei
    · split at ei
      · cases ei
        cases ax.str; cases ay.str
        exact L2.op_notin_str pins sh σ H _ _ v u Q I rx ry ⟨_, _, rfl, rfl, k _ H R .refl (.bl _)⟩
      · cases ei
    · split at ei
      · rename_i t ds f
        cases ei
        obtain ⟨a, o, rfl, g, g1, g2⟩ := AtE.dget ay ax f
        obtain rfl : u = Value.ref a := ry
        have eo : o.isSome = (lookD dx ds).isSome := by
          cases el : lookD dx ds with
          | none => rw [g2 el]; rfl
          | some d => obtain ⟨w, q, _⟩ := g1 d el; rw [q]; rfl
        rw [← eo] at k
        exact dgo_notIn (hu1 hu) hW I g rx fun s3 I3 => ⟨.bl (!o.isSome), H, I3, rfl, k _ H R .refl (.bl _)⟩
      · cases ei
    · cases ei
/-- is None, is not None -/
def isNone : PyData → Bool
  | .none => true
  | _ => false
def isD (dx dy : PyData) : Option PyData := match dy with
  | .none => some (.bool (isNone dx))
  | _ => none
def isNotD (dx dy : PyData) : Option PyData := match dy with
  | .none => some (.bool !(isNone dx))
  | _ => none
theorem AtE.isNon {x : V} (h : AtE K O H x d) : decide (x = V.non) = isNone d := by
  rcases h with h | ⟨b, rfl, h⟩
  · cases h <;> simp [isNone]
  · cases h <;> simp [isNone, dicD]
theorem op_isP : OpD X (compareOp .Is) isD := by
  intro p pins sh σ H O s x y v u dx dy z Q I R rx ry ax ay e k
  unfold isD at e
  split at e
  · cases e
    cases ay.non
    exact op_isN pins sh σ H _ _ v u Q I rx ry ⟨rfl, by rw [ax.isNon]; exact k _ H R .refl (.bl _)⟩
  · cases e
theorem op_isNotP : OpD X (compareOp .IsNot) isNotD := by
  intro p pins sh σ H O s x y v u dx dy z Q I R rx ry ax ay e k
  unfold isNotD at e
  split at e
  · cases e
    cases ay.non
    exact op_notN pins sh σ H _ _ v u Q I rx ry ⟨rfl, by rw [ax.isNon]; exact k _ H R .refl (.bl _)⟩
  · cases e

/-! ### a op1 b op2 c -/
variable {ea eb ec : Expr} {pos : Pos}
@[simp] def tChn (f g : PyData → PyData → Option PyData) (ta tb tc : PTL) : PTE := fun s Q => ta s fun x s1 => tb s1 fun y s2 => ∃ dx dy k, rd s2 x = some dx ∧ rd s2 y = some dy ∧ f dx dy = some (.bool k) ∧
  if k = true then tc s2 fun z s3 => ∃ dy' dz r, rd s3 y = some dy' ∧ rd s3 z = some dz ∧ g dy' dz = some r ∧ Q r s3 else Q (.bool false) s2
theorem OpD.bool {f : PyData → PyData → Option PyData} {g : Value → Value → Sem Value} (ho : OpD X g f) {pins : List (Addr × Obj)} {sh : Shared} {x y : V} {w u : Value} {dx dy : PyData} {k : Bool} {Q : Value → Shared → Prop} (I : Inv X pins σ H sh) (R : Rl X.K p O σ H s) (rx : RelV x w) (ry : RelV y u)
    (ax : AtE X.K O H x dx) (ay : AtE X.K O H y dy) (e : f dx dy = some (.bool k)) (h : ∀ s' H', Inv X pins σ H' s' → Rl X.K p O σ H' s → Kp O H O H' → Q (.bool k) s') : wpAny (model X.prog X.w) X.A (g w u) Q X.xe sh := by
  refine thn (ho p pins sh σ H O s x y w u dx dy (.bool k) (fun z H' => z = .bl k ∧ Rl X.K p O σ H' s ∧ Kp O H O H') I R rx ry ax ay e fun z H' R' k' a => ?_) fun z s' ⟨z', H', I', rz, ez, R', k'⟩ => ?_
  · cases a; exact ⟨rfl, R', k'⟩
  · subst ez
    obtain rfl : z = Value.bool k := rz
    exact h s' H' I' R' k'
theorem de_chn {op op' : CmpOp} {f g : PyData → PyData → Option PyData} {ta tb tc : PTL} (ho : OpD X (compareOp op) f) (ho' : OpD X (compareOp op') g) (ha : DL X ea ta) (hb : DL X eb tb) (hc : DL X ec tc)
    (hm : lastMarks [op, op'] [eb, ec] = false := by with_unfolding_all rfl) : DE X (.Compare ea [op, op'] [eb, ec] pos) (tChn f g ta tb tc) := by
  refine ⟨⟨fun pins sh σ H Q I h => ?_⟩, fun s Q Q' w q => ha.mono _ _ _ (fun x s1 q1 => hb.mono _ _ _ (fun y s2 ⟨dx, dy, k, e1, e2, e3, q2⟩ => ⟨dx, dy, k, e1, e2, e3, ?_⟩) q1) q⟩
  · obtain ⟨p, O, s, R, q⟩ := h
    refine Compare_chain (thn (ha.pe.run pins sh σ H _ I ⟨p, O, s, R, ha.mono _ _ _ (fun x s1 q1 vx O1 H1 R1 k1 a1 => show ∃ O1 s1 x, Rl X.K p O1 σ H1 s1 ∧ RvOk X.K p O1 σ H1 vx x ∧ Kp O H O1 H1 ∧ _ from ⟨O1, s1, x, R1, a1, k1, q1⟩) q⟩) fun v s1 ⟨vx, H1, I1, r1, O1, p1, x, R1, a1, k1, q1⟩ =>
      chain_link (thn (hb.pe.run pins s1 σ H1 _ I1 ⟨p, O1, p1, R1, hb.mono _ _ _ (fun y s2 q2 vy O2 H2 R2 k2 a2 => show ∃ O2 s2 y, Rl X.K p O2 σ H2 s2 ∧ RvOk X.K p O2 σ H2 vy y ∧ Kp O1 H1 O2 H2 ∧ _ from ⟨O2, s2, y, R2, a2, k2, q2⟩) q1⟩) fun u s2 ⟨vy, H2, I2, r2, O2, p2, y, R2, a2, k2, dx, dy, k, e1, e2, e3, q3⟩ => ?_)) hm
    refine ho.bool I2 R2 r1 r2 (R2.read (a1.to k2) e1) (R2.read a2 e2) e3 fun s3 H3 I3 R3 k3 => ?_
    refine wpAny_truthy_bool ?_
    cases k with
    | true =>
      simp only [if_true] at q3 ⊢
      refine chain_last (thn (hc.pe.run pins s3 σ H3 _ I3 ⟨p, O2, p2, R3, hc.mono _ _ _ (fun z s4 q4 vz O4 H4 R4 k4 a4 => show ∃ O4 s4 z, Rl X.K p O4 σ H4 s4 ∧ RvOk X.K p O4 σ H4 vz z ∧ Kp O2 H3 O4 H4 ∧ _ from ⟨O4, s4, z, R4, a4, k4, q4⟩) q3⟩) fun t s4 ⟨vz, H4, I4, r4, O4, p4, z, R4, a4, k4, dy', dz, r, f1, f2, f3, q5⟩ => ?_)
      exact ho' p pins s4 σ H4 O4 p4 vy vz u t dy' dz r Q I4 R4 r2 r4 (R4.read ((a2.to k3).to k4) f1) (R4.read a4 f2) f3 fun w H5 R5 k5 a5 => q5 w O4 H5 R5 ((k1.trans k2).trans (k3.trans (k4.trans k5))) a5
    | false =>
      simp only [Bool.false_eq_true, if_false] at q3 ⊢
      exact ⟨.bl false, H3, I3, rfl, q3 _ O2 H3 R3 ((k1.trans k2).trans k3) (.bl false)⟩
  · cases k with
    | true =>
      simp only [if_true] at q2 ⊢
      exact hc.mono _ _ _ (fun z s3 ⟨dy', dz, r, f1, f2, f3, q5⟩ => ⟨dy', dz, r, f1, f2, f3, w _ _ q5⟩) q2
    | false =>
      simp only [Bool.false_eq_true, if_false] at q2 ⊢
      exact w _ _ q2

/-! ### tests -/
abbrev PTT := PSt → (Bool → PSt → Prop) → Prop
def MonoT (t : PTT) : Prop := ∀ s Q Q', (∀ b s', Q b s' → Q' b s') → t s Q → t s Q'
def liftT (K : PySem.W.Frag) (t : PTT) : TT := fun σ H QB => ∃ p O s, Rl K p O σ H s ∧ t s fun b s' => ∀ O' H', Rl K p O' σ H' s' → Kp O H O' H' → QB b H'
structure DT (X : Cx) (e : Expr) (t : PTT) : Prop where
  pt : PT X e (liftT X.K t)
  mono : MonoT t
theorem PT.weak {X : Cx} {e : Expr} {t t' : TT} (h : PT X e t) (w : ∀ σ H Q, t' σ H Q → t σ H Q) : PT X e t' := ⟨fun pins s σ H Q I q => h.run pins s σ H Q I (w _ _ _ q)⟩
/-- a truth value's test -/
@[simp] def tBo (t : PTE) : PTT := fun s Q => t s fun d s' => ∃ b, d = .bool b ∧ Q b s'
theorem mono_bo {t : PTE} (h : Mono t) : MonoT (tBo t) := fun s Q Q' w q => h _ _ _ (fun d s' ⟨b, e, q⟩ => ⟨b, e, w _ _ q⟩) q
theorem dt_val {e : Expr} {t : PTE} (h : DE X e t) (he : ∀ whole, isTrue e X.env whole = (do let v ← whole; standAt e.pos; holding [v] (truthy v)) := by intro _; rfl) : DT X e (tBo t) := by
  refine ⟨PT.weak (pt_val h.pe he) fun σ H Q ⟨p, O, s, R, q⟩ => ⟨p, O, s, R, h.mono _ _ _ (fun d s' ⟨b, e, q⟩ v O' H' R' k' a => ?_) q⟩, mono_bo h.mono⟩
  subst e
  cases a
  exact ⟨b, rfl, q O' H' R' k'⟩
theorem dt_cmp {op : CmpOp} {f : PyData → PyData → Option PyData} {ta tb : PTL} (ho : OpD X (compareOp op) f) (ha : DL X ea ta) (hb : DL X eb tb)
    (hm : behindInMarks op eb = false := by first | exact nomark _ | rfl) : DT X (.Compare ea [op] [eb] pos) (tBo (tBin f ta tb)) := by
  refine ⟨⟨fun pins sh σ H Q I h => ?_⟩, mono_bo (mono_bin ha.mono hb.mono)⟩
  obtain ⟨p, O, s, R, q⟩ := h
  refine wpAny_isTrue_Compare1 (thn (ha.pe.run pins sh σ H _ I ⟨p, O, s, R, ha.mono _ _ _ (fun x s1 q1 vx O1 H1 R1 k1 a1 => show ∃ O1 s1 x, Rl X.K p O1 σ H1 s1 ∧ RvOk X.K p O1 σ H1 vx x ∧ Kp O H O1 H1 ∧ _ from ⟨O1, s1, x, R1, a1, k1, q1⟩) q⟩) fun v s1 ⟨vx, H1, I1, r1, O1, p1, x, R1, a1, k1, q1⟩ =>
    thn (hb.pe.run pins s1 σ H1 _ I1 ⟨p, O1, p1, R1, hb.mono _ _ _ (fun y s2 q2 vy O2 H2 R2 k2 a2 => show ∃ O2 s2 y, Rl X.K p O2 σ H2 s2 ∧ RvOk X.K p O2 σ H2 vy y ∧ Kp O1 H1 O2 H2 ∧ _ from ⟨O2, s2, y, R2, a2, k2, q2⟩) q1⟩) fun u s2 ⟨vy, H2, I2, r2, O2, p2, y, R2, a2, k2, dx, dy, z, e1, e2, e3, b, eb, q3⟩ => ?_) hm
  subst eb
  exact ho.bool I2 R2 r1 r2 (R2.read (a1.to k2) e1) (R2.read a2 e2) e3 fun s3 H3 I3 R3 k3 => wpAny_truthy_bool ⟨H3, I3, q3 O2 H3 R3 ((k1.trans k2).trans k3)⟩
theorem dt_chn {op op' : CmpOp} {f g : PyData → PyData → Option PyData} {ta tb tc : PTL} (ho : OpD X (compareOp op) f) (ho' : OpD X (compareOp op') g) (ha : DL X ea ta) (hb : DL X eb tb) (hc : DL X ec tc)
    (hm : lastMarks [op, op'] [eb, ec] = false := by with_unfolding_all rfl) : DT X (.Compare ea [op, op'] [eb, ec] pos) (tBo (tChn f g ta tb tc)) := by
  refine ⟨⟨fun pins sh σ H Q I h => ?_⟩, mono_bo (de_chn (pos := pos) ho ho' ha hb hc hm).mono⟩
  obtain ⟨p, O, s, R, q⟩ := h
  refine isTrue_chain (thn (ha.pe.run pins sh σ H _ I ⟨p, O, s, R, ha.mono _ _ _ (fun x s1 q1 vx O1 H1 R1 k1 a1 => show ∃ O1 s1 x, Rl X.K p O1 σ H1 s1 ∧ RvOk X.K p O1 σ H1 vx x ∧ Kp O H O1 H1 ∧ _ from ⟨O1, s1, x, R1, a1, k1, q1⟩) q⟩) fun v s1 ⟨vx, H1, I1, r1, O1, p1, x, R1, a1, k1, q1⟩ =>
    test_link (thn (hb.pe.run pins s1 σ H1 _ I1 ⟨p, O1, p1, R1, hb.mono _ _ _ (fun y s2 q2 vy O2 H2 R2 k2 a2 => show ∃ O2 s2 y, Rl X.K p O2 σ H2 s2 ∧ RvOk X.K p O2 σ H2 vy y ∧ Kp O1 H1 O2 H2 ∧ _ from ⟨O2, s2, y, R2, a2, k2, q2⟩) q1⟩) fun u s2 ⟨vy, H2, I2, r2, O2, p2, y, R2, a2, k2, dx, dy, k, e1, e2, e3, q3⟩ => ?_)) hm
  refine ho.bool I2 R2 r1 r2 (R2.read (a1.to k2) e1) (R2.read a2 e2) e3 fun s3 H3 I3 R3 k3 => ?_
  refine wpAny_truthy_bool ?_
  cases k with
  | true =>
    simp only [if_true] at q3 ⊢
    refine test_last (thn (hc.pe.run pins s3 σ H3 _ I3 ⟨p, O2, p2, R3, hc.mono _ _ _ (fun z s4 q4 vz O4 H4 R4 k4 a4 => show ∃ O4 s4 z, Rl X.K p O4 σ H4 s4 ∧ RvOk X.K p O4 σ H4 vz z ∧ Kp O2 H3 O4 H4 ∧ _ from ⟨O4, s4, z, R4, a4, k4, q4⟩) q3⟩) fun t s4 ⟨vz, H4, I4, r4, O4, p4, z, R4, a4, k4, dy', dz, r, f1, f2, f3, b, er, q5⟩ => ?_)
    subst er
    exact ho'.bool I4 R4 r2 r4 (R4.read ((a2.to k3).to k4) f1) (R4.read a4 f2) f3 fun s5 H5 I5 R5 k5 => wpAny_truthy_bool ⟨H5, I5, q5 O4 H5 R5 ((k1.trans k2).trans (k3.trans (k4.trans k5)))⟩
  | false =>
    simp only [Bool.false_eq_true, if_false] at q3 ⊢
    obtain ⟨b, eb, q3⟩ := q3
    cases eb
    exact ⟨H3, I3, q3 O2 H3 R3 ((k1.trans k2).trans k3)⟩
/-- by truth -/
@[simp] def okTru : PyData → Bool
  | .str x => decide (x.length ≤ sizeLine)
  | .dict _ => false
  | _ => true
@[simp] def truD : PyData → Bool
  | .dict (_ :: ds) => !ds.isEmpty
  | d => d.truthy
theorem AtL.empty {xs : List V} {ds : List PyData} (h : AtL K O H xs ds) : xs.isEmpty = ds.isEmpty := by cases h <;> rfl
theorem AtK.empty {xs : List (Key × V)} {ds : List (PyData × PyData)} (h : AtK K O H xs ds) : xs.isEmpty = ds.isEmpty := by cases h <;> rfl
theorem AtE.tru {x : V} (h : AtE K O H x d) (ok : okTru d = true) : TruV K x H (truD d) := by
  cases d with
  | none => cases h.non; exact rfl
  | bool b => cases h.bl; exact rfl
  | int i => cases h.int; exact rfl
  | str z => cases h.str; exact ⟨of_decide_eq_true ok, rfl⟩
  | list ds =>
    obtain ⟨a, xs, rfl, h1, h2⟩ := h.lst
    exact .inl ⟨xs, SqL.of h1, by rw [h2.empty]; rfl⟩
  | tuple ds =>
    obtain ⟨a, xs, rfl, h1, h2⟩ := h.tup
    exact .inr (.inl ⟨xs, h1.sq, by rw [h2.empty]; rfl⟩)
  | dict ds =>
    cases ok
@[simp] def tTr (t : PTL) : PTT := fun s Q => t s fun x s' => ∃ d, rd s' x = some d ∧ okTru d = true ∧ Q (truD d) s'
theorem dt_tru {e : Expr} {t : PTL} (h : DL X e t) (he : ∀ whole, isTrue e X.env whole = (do let v ← whole; standAt e.pos; holding [v] (truthy v)) := by intro _; rfl) : DT X e (tTr t) := by
  refine ⟨PT.weak (pt_truth h.pe he) fun σ H Q ⟨p, O, s, R, q⟩ => ⟨p, O, s, R, h.mono _ _ _ (fun x s' ⟨d, e, ok, q⟩ v O' H' R' k' a => ?_) q⟩, fun s Q Q' w q => h.mono _ _ _ (fun x s' ⟨d, e, ok, q⟩ => ⟨d, e, ok, w _ _ q⟩) q⟩
  exact ⟨_, (R'.read a e).tru ok, q O' H' R' k'⟩
@[simp] def tNt (t : PTT) : PTT := fun s Q => t s fun b s' => Q (!b) s'
theorem dt_not {e : Expr} {t : PTT} (h : DT X e t) : DT X (.UnaryOp .Not e pos) (tNt t) :=
  ⟨PT.weak (pt_not h.pt) fun σ H Q ⟨p, O, s, R, q⟩ => ⟨p, O, s, R, h.mono _ _ _ (fun b s' q O' H' R' k' => q O' H' R' k') q⟩, fun s Q Q' w q => h.mono _ _ _ (fun b s' => w (!b) s') q⟩
/-- .. in a row -/
structure DW (X : Cx) (e : Expr) (t : PTT) : Prop where
  pw : PW X e (liftT X.K t)
  mono : MonoT t
theorem DW.dt {e : Expr} {t : PTT} (h : DW X e t) : DT X e t := ⟨h.pw.pt, h.mono⟩
theorem PW.weak {X : Cx} {e : Expr} {t t' : TT} (h : PW X e t) (w : ∀ σ H Q, t' σ H Q → t σ H Q) : PW X e t' := ⟨fun wh pins s σ H Q I q => h.run wh pins s σ H Q I (w _ _ _ q)⟩
variable {rest : List Expr}
@[simp] def tAn (t u : PTT) : PTT := fun s Q => t s fun b s' => if b = true then u s' Q else Q false s'
@[simp] def tOr (t u : PTT) : PTT := fun s Q => t s fun b s' => if b = true then Q true s' else u s' Q
theorem mono_an {t u : PTT} (h : MonoT t) (k : MonoT u) : MonoT (tAn t u) := fun s Q Q' w q => h _ _ _ (fun b s' q => by
  cases b
  · simp only [Bool.false_eq_true, if_false] at q ⊢; exact w _ _ q
  · simp only [if_true] at q ⊢; exact k _ _ _ w q) q
theorem mono_or {t u : PTT} (h : MonoT t) (k : MonoT u) : MonoT (tOr t u) := fun s Q Q' w q => h _ _ _ (fun b s' q => by
  cases b
  · simp only [Bool.false_eq_true, if_false] at q ⊢; exact k _ _ _ w q
  · simp only [if_true] at q ⊢; exact w _ _ q) q
theorem dw_and1 {t : PTT} (h : DT X ea t) : DW X (.BoolOp .And [ea] pos) t := ⟨pw_and1 h.pt, h.mono⟩
theorem dw_or1 {t : PTT} (h : DT X ea t) : DW X (.BoolOp .Or [ea] pos) t := ⟨pw_or1 h.pt, h.mono⟩
theorem dw_and {t u : PTT} (h : DT X ea t) (k : DW X (.BoolOp .And (eb :: rest) pos) u) : DW X (.BoolOp .And (ea :: eb :: rest) pos) (tAn t u) := by
  refine ⟨PW.weak (pw_and h.pt k.pw) fun σ H Q ⟨p, O, s, R, q⟩ => ⟨p, O, s, R, h.mono _ _ _ (fun b s' q O' H' R' k' => ?_) q⟩, mono_an h.mono k.mono⟩
  cases b
  · simp only [Bool.false_eq_true, if_false] at q ⊢; exact q O' H' R' k'
  · simp only [if_true] at q ⊢
    exact ⟨p, O', s', R', k.mono _ _ _ (fun b s2 q2 O2 H2 R2 k2 => q2 O2 H2 R2 (k'.trans k2)) q⟩
theorem dw_or {t u : PTT} (h : DT X ea t) (k : DW X (.BoolOp .Or (eb :: rest) pos) u) : DW X (.BoolOp .Or (ea :: eb :: rest) pos) (tOr t u) := by
  refine ⟨PW.weak (pw_or h.pt k.pw) fun σ H Q ⟨p, O, s, R, q⟩ => ⟨p, O, s, R, h.mono _ _ _ (fun b s' q O' H' R' k' => ?_) q⟩, mono_or h.mono k.mono⟩
  cases b
  · simp only [Bool.false_eq_true, if_false] at q ⊢
    exact ⟨p, O', s', R', k.mono _ _ _ (fun b s2 q2 O2 H2 R2 k2 => q2 O2 H2 R2 (k'.trans k2)) q⟩
  · simp only [if_true] at q ⊢; exact q O' H' R' k'

/-! ### and, or, not as values; a if t else b -/
theorem At.tru {x : V} (h : At K O H x d) (ok : okTru d = true) : TruV K x H (truD d) := AtE.tru (.inl h) ok
@[simp] def tAnV (t u : PTE) : PTE := fun s Q => t s fun d s' => okTru d = true ∧ if truD d = true then u s' Q else Q d s'
@[simp] def tOrV (t u : PTE) : PTE := fun s Q => t s fun d s' => okTru d = true ∧ if truD d = true then Q d s' else u s' Q
@[simp] def tNtV (t : PTL) : PTE := fun s Q => t s fun x s' => ∃ d, rd s' x = some d ∧ okTru d = true ∧ Q (.bool !(truD d)) s'
theorem de_one {op} {t : PTE} (h : DE X ea t) : DE X (.BoolOp op [ea] pos) t := ⟨pe_one h.pe, h.mono⟩
theorem de_and {t u : PTE} (h : DE X ea t) (k : DE X (.BoolOp .And (eb :: rest) pos) u) : DE X (.BoolOp .And (ea :: eb :: rest) pos) (tAnV t u) := by
  refine ⟨PE.weak (pe_andT h.pe k.pe) fun σ H Q ⟨p, O, s, R, q⟩ => ⟨p, O, s, R, h.mono _ _ _ (fun d s' ⟨ok, q⟩ v O' H' R' k' a => ⟨_, a.tru ok, ?_⟩) q⟩, fun s Q Q' w q => h.mono _ _ _ (fun d s' ⟨ok, q⟩ => ⟨ok, ?_⟩) q⟩
  · split
    · rename_i e; rw [if_pos e] at q
      exact ⟨p, O', s', R', k.mono _ _ _ (fun d s2 q2 v2 O2 H2 R2 k2 a2 => q2 v2 O2 H2 R2 (k'.trans k2) a2) q⟩
    · rename_i e; rw [if_neg e] at q; exact q v O' H' R' k' a
  · split
    · rename_i e; rw [if_pos e] at q; exact k.mono _ _ _ w q
    · rename_i e; rw [if_neg e] at q; exact w _ _ q
theorem de_or {t u : PTE} (h : DE X ea t) (k : DE X (.BoolOp .Or (eb :: rest) pos) u) : DE X (.BoolOp .Or (ea :: eb :: rest) pos) (tOrV t u) := by
  refine ⟨PE.weak (pe_orT h.pe k.pe) fun σ H Q ⟨p, O, s, R, q⟩ => ⟨p, O, s, R, h.mono _ _ _ (fun d s' ⟨ok, q⟩ v O' H' R' k' a => ⟨_, a.tru ok, ?_⟩) q⟩, fun s Q Q' w q => h.mono _ _ _ (fun d s' ⟨ok, q⟩ => ⟨ok, ?_⟩) q⟩
  · split
    · rename_i e; rw [if_pos e] at q; exact q v O' H' R' k' a
    · rename_i e; rw [if_neg e] at q
      exact ⟨p, O', s', R', k.mono _ _ _ (fun d s2 q2 v2 O2 H2 R2 k2 a2 => q2 v2 O2 H2 R2 (k'.trans k2) a2) q⟩
  · split
    · rename_i e; rw [if_pos e] at q; exact w _ _ q
    · rename_i e; rw [if_neg e] at q; exact k.mono _ _ _ w q
theorem de_not {t : PTL} (h : DL X ea t) : DE X (.UnaryOp .Not ea pos) (tNtV t) :=
  ⟨PE.weak (pe_notT h.pe) fun σ H Q ⟨p, O, s, R, q⟩ => ⟨p, O, s, R, h.mono _ _ _ (fun x s' ⟨d, e, ok, q⟩ v O' H' R' k' a => ⟨_, (R'.read a e).tru ok, q _ O' H' R' k' (.bl _)⟩) q⟩, fun s Q Q' w q => h.mono _ _ _ (fun x s' ⟨d, e, ok, q⟩ => ⟨d, e, ok, w _ _ q⟩) q⟩
@[simp] def tIfE (t : PTT) (u w : PTE) : PTE := fun s Q => t s fun b s' => if b = true then u s' Q else w s' Q
theorem de_if {t : PTT} {u w : PTE} (h : DT X ec t) (k : DE X ea u) (l : DE X eb w) : DE X (.IfExp ec ea eb pos) (tIfE t u w) := by
  refine ⟨PE.weak (pe_ifExp h.pt k.pe l.pe) fun σ H Q ⟨p, O, s, R, q⟩ => ⟨p, O, s, R, h.mono _ _ _ (fun b s' q O' H' R' k' => ?_) q⟩, fun s Q Q' z q => h.mono _ _ _ (fun b s' q => ?_) q⟩
  · cases b
    · exact ⟨p, O', s', R', l.mono _ _ _ (fun d s2 q2 v2 O2 H2 R2 k2 a2 => q2 v2 O2 H2 R2 (k'.trans k2) a2) q⟩
    · exact ⟨p, O', s', R', k.mono _ _ _ (fun d s2 q2 v2 O2 H2 R2 k2 a2 => q2 v2 O2 H2 R2 (k'.trans k2) a2) q⟩
  · cases b
    · exact l.mono _ _ _ z q
    · exact k.mono _ _ _ z q
end
end PD
end
section
set_option Elab.async false
set_option linter.all false
set_option maxRecDepth 100000
set_option maxHeartbeats 4000000
/-! PD6: argument lists, displays, subscripts, slices over data. -/
namespace PD
variable [TB]
open PySem PySem.Spec PyProof.Rows L2

abbrev PTA := PSt → (List PyData → PSt → Prop) → Prop
def MonoA (t : PTA) : Prop := ∀ s Q Q', (∀ d s', Q d s' → Q' d s') → t s Q → t s Q'
def liftA (K : PySem.W.Frag) (t : PTA) : TA := fun σ H QV => ∃ p O s, Rl K p O σ H s ∧ t s fun ds s' => ∀ vs O' H', Rl K p O' σ H' s' → Kp O H O' H' → AtL K O' H' vs ds → QV vs H'
structure DA (X : Cx) (es : List Expr) (t : PTA) : Prop where
  pa : PA X es (liftA X.K t)
  mono : MonoA t
theorem PA.weak {X : Cx} {e : List Expr} {t t' : TA} (h : PA X e t) (w : ∀ σ H Q, t' σ H Q → t σ H Q) : PA X e t' := ⟨fun pos pins s σ H Q I q => h.run pos pins s σ H Q I (w _ _ _ q)⟩
section
variable {K : PySem.W.Frag} {X : Cx} {p : Pm} {O O' : Ow} {σ : L2.St} {H H' : Hp} {s : PSt} {v : V} {d : PyData} {a : Addr} {e ea eb : Expr} {es : List Expr} {pos : Pos}
@[simp] def tNl : PTA := fun s Q => Q [] s
@[simp] def tCn (t : PTE) (u : PTA) : PTA := fun s Q => t s fun d s1 => u s1 fun ds s2 => Q (d :: ds) s2
theorem da_nil : DA X [] tNl := ⟨PA.weak pa_nil fun σ H Q ⟨p, O, s, R, q⟩ => q [] O H R .refl .nil, fun s Q Q' w q => w _ _ q⟩
theorem da_cons {t : PTE} {u : PTA} (h : DE X e t) (k : DA X es u) (hs : starEach (e :: es) X.env = (false, eval e X.env) :: starEach es X.env := by rfl) : DA X (e :: es) (tCn t u) :=
  ⟨PA.weak (pa_cons h.pe k.pa hs) fun σ H Q ⟨p, O, s, R, q⟩ => ⟨p, O, s, R, h.mono _ _ _ (fun d s1 q1 v1 O1 H1 R1 k1 a1 => ⟨p, O1, s1, R1, k.mono _ _ _ (fun ds s2 q2 vs O2 H2 R2 k2 a2 => q2 (v1 :: vs) O2 H2 R2 (k1.trans k2) (.cons (a1.to k2) a2)) q1⟩) q⟩,
    fun s Q Q' w q => h.mono _ _ _ (fun d s1 q1 => k.mono _ _ _ (fun ds s2 => w (d :: ds) s2) q1) q⟩

/-! ### displays -/
@[simp] def tTp (t : PTA) : PTE := fun s Q => t s fun ds s' => ds.length ≤ sizeLine ∧ Q (.tuple ds) s'
@[simp] def tLs (t : PTA) : PTE := fun s Q => t s fun ds s' => ds.length ≤ sizeLine ∧ Q (.list ds) s'
theorem mono_tp {t : PTA} (h : MonoA t) : Mono (tTp t) := fun s Q Q' w q => h _ _ _ (fun ds s' q => ⟨q.1, w _ _ q.2⟩) q
theorem mono_ls {t : PTA} (h : MonoA t) : Mono (tLs t) := fun s Q Q' w q => h _ _ _ (fun ds s' q => ⟨q.1, w _ _ q.2⟩) q
theorem de_tup {x1} {t : PTA} (h : DA X es t) : DE X (.Tuple es x1 pos) (tTp t) :=
  ⟨PE.weak (pe_tupF h.pa) fun σ H Q ⟨p, O, s, R, q⟩ => ⟨p, O, s, R, h.mono _ _ _ (fun ds s' ⟨z, q⟩ vs O' H' R' k' a => ⟨by rw [a.len]; exact z, fun l o hl ho => by
    obtain ⟨f1, f2, f3⟩ := fin_tup R' hl ho a
    exact q _ _ _ f1 (k'.trans f2) f3⟩) q⟩, mono_tp h.mono⟩
theorem df_lst {t : PTA} (h : DA X es t) : DF X (.List es pos) (tLs t) :=
  ⟨PE.weak (pe_lst h.pa) fun σ H Q ⟨p, O, s, R, q⟩ => ⟨p, O, s, R, h.mono _ _ _ (fun ds s' ⟨z, q⟩ vs O' H' R' k' a => ⟨by rw [a.len]; exact z, fun l hl => by
    obtain ⟨f1, f2, f3⟩ := fin_lone R' hl a
    exact q _ _ _ f1 (k'.trans f2) f3⟩) q⟩, mono_ls h.mono⟩
/-- {}: its keys ints and texts, or tuples -/
theorem fin_dic {q : Addr} {t : Bool} (R : Rl K p O σ H s) (hq : H q = none) : Rl K p (O.with q) σ (upd H q (if t then DxO q [] else .dK [])) s ∧ Kp O H (O.with q) (upd H q (if t then DxO q [] else .dK [])) ∧ Lone K p (O.with q) σ (upd H q (if t then DxO q [] else .dK [])) s q (dicD t []) :=
  ⟨R.newOwn hq (by cases t <;> first | exact True.intro | exact ⟨_, _, rfl⟩), Kp.newOwn hq, .inr rfl, (R.fresh hq).1, (R.fresh hq).2.1, by cases t <;> first | exact .dicK upd_same .nil | exact .dicT upd_same .nil, (R.fresh hq).2.2⟩
@[simp] def tDn (t : Bool) : PTE := fun s Q => Q (dicD t []) s
theorem df_dicK : DF X (.Dict [] [] pos) (tDn false) :=
  ⟨PE.weak pe_dnewK fun σ H Q ⟨p, O, s, R, q⟩ l hl => by
    obtain ⟨f1, f2, f3⟩ := fin_dic (t := false) R hl
    exact q _ _ _ f1 f2 f3, fun s Q Q' w q => w _ _ q⟩
theorem df_dicT : DF X (.Dict [] [] pos) (tDn true) :=
  ⟨PE.weak pe_dnewX fun σ H Q ⟨p, O, s, R, q⟩ l hl => by
    obtain ⟨f1, f2, f3⟩ := fin_dic (t := true) R hl
    exact q _ _ _ f1 f2 f3, fun s Q Q' w q => w _ _ q⟩

/-! ### fresh results of operators -/
def catL : PyData → PyData → Option PyData
  | .list xs, .list ys => if xs.length + ys.length ≤ sizeLine then some (.list (xs ++ ys)) else none
  | _, _ => none
def repL : PyData → PyData → Option PyData
  | .list xs, .int n => if -(2 ^ 63) ≤ n ∧ n < 2 ^ 63 ∧ xs.length * n.toNat ≤ sizeLine then some (.list (repD n xs)) else none
  | _, _ => none
def OpF (X : Cx) (g : Value → Value → Sem Value) (f : PyData → PyData → Option PyData) : Prop :=
  ∀ (p : Pm) (pins : List (Addr × Obj)) (sh : Shared) (σ : L2.St) (H : Hp) (O : Ow) (s : PSt) (x y : V) (v u : Value) (dx dy z : PyData) (QV : VK), Inv X pins σ H sh → Rl X.K p O σ H s → RelV x v → RelV y u →
    AtE X.K O H x dx → AtE X.K O H y dy → f dx dy = some z → (∀ a O' H', Rl X.K p O' σ H' s → Kp O H O' H' → Lone X.K p O' σ H' s a z → QV (.ref a) H') → wpAny (model X.prog X.w) X.A (g v u) (EP X pins σ QV) X.xe sh
theorem df_op {op : Operator} {f : PyData → PyData → Option PyData} {ta tb : PTL} (ho : OpF X (binaryOp op) f) (ha : DL X ea ta) (hb : DL X eb tb) : DF X (.BinOp ea op eb pos) (tBin f ta tb) := by
  refine ⟨⟨fun pins sh σ H Q I h => ?_⟩, mono_bin ha.mono hb.mono⟩
  obtain ⟨p, O, s, R, q⟩ := h
  refine wpAny_BinOp (binT ha.pe hb.pe I (two (T := fun x y H2 => ∃ O' s' dx dy z, Rl X.K p O' σ H2 s' ∧ AtE X.K O' H2 x dx ∧ AtE X.K O' H2 y dy ∧ f dx dy = some z ∧ ∀ a O3 H3, Rl X.K p O3 σ H3 s' → Kp O' H2 O3 H3 → Lone X.K p O3 σ H3 s' a z → Q (.ref a) H3) ha hb R q ?_) fun v u s2 x y H2 I2 rx ry q2 => ?_)
  · rintro x y vx vy O' H' s' R' k' a1 a2 ⟨dx, dy, z, e1, e2, e3, q3⟩
    exact ⟨O', s', dx, dy, z, R', R'.read a1 e1, R'.read a2 e2, e3, fun w O3 H3 R3 k3 a3 => q3 w O3 H3 R3 (k'.trans k3) a3⟩
  · obtain ⟨O', s', dx, dy, z, R', a1, a2, e3, q3⟩ := q2
    exact ho p pins s2 σ H2 O' s' x y v u dx dy z Q I2 R' rx ry a1 a2 e3 q3
theorem op_catF : OpF X (binaryOp .Add) catL := by
  intro p pins sh σ H O s x y v u dx dy z Q I R rx ry ax ay e k
  unfold catL at e
  split at e
  · split at e
    · rename_i xs ys hz
      cases e
      obtain ⟨a, vs, rfl, h1, h2⟩ := ax.lst
      obtain ⟨b, ws, rfl, h3, h4⟩ := ay.lst
      refine op_cat pins sh σ H _ _ v u Q I rx ry ⟨_, _, vs, ws, rfl, rfl, h1, h3, by rw [h2.len, h4.len]; exact hz, fun q hq => ?_⟩
      obtain ⟨f1, f2, f3⟩ := fin_lone R hq (h2.append h4)
      exact k _ _ _ f1 f2 f3
    · cases e
  · cases e
theorem op_repF : OpF X (binaryOp .Mult) repL := by
  intro p pins sh σ H O s x y v u dx dy z Q I R rx ry ax ay e k
  unfold repL at e
  split at e
  · split at e
    · rename_i hz
      cases e
      obtain ⟨a, vs, rfl, h1, h2⟩ := ax.lst
      cases ay.int
      refine op_rep pins sh σ H _ _ v u Q I rx ry ⟨_, _, vs, rfl, rfl, h1, hz.1, hz.2.1, by rw [h2.len]; exact hz.2.2, fun q hq => ?_⟩
      obtain ⟨f1, f2, f3⟩ := fin_lone R hq (h2.rep _)
      exact k _ _ _ f1 f2 f3
    · cases e
  · cases e

/-! ### subscripts -/
def ixD : PyData → PyData → Option PyData
  | .list xs, .int i => atI xs i
  | .tuple xs, .int i => atI xs i
  | .str z, .int i => if z.length ≤ sizeLine then (atI z.cps.toList i).map fun c => .str ⟨#[c]⟩ else none
  | .dict ((.bool t, .none) :: ds), k => if keyFits t k then lookD k ds else none
  | _, _ => none
theorem AtL.atI {xs : List V} {ds : List PyData} {i : Int} {d : PyData} (h : AtL K O H xs ds) (e : L2.atI ds i = some d) : ∃ v, L2.atI xs i = some v ∧ At K O H v d := by
  unfold L2.atI at e ⊢
  rw [h.len]
  cases q : ixN ds.length i with
  | none => rw [q] at e; cases e
  | some j =>
    rw [q] at e
    obtain ⟨v, e1, e2⟩ := h.get' (show ds[j]? = some d from e)
    exact ⟨v, e1, e2⟩
def rIxDic (K : PySem.W.Frag) : R2 := fun x y H Q => ∃ a v, x = .ref a ∧ DGo K H a y (some v) ∧ Q v H
theorem ix_dic (hu : X.A.units + 1 < cLine) (hW : SameW X) : IxR X (rIxDic X.K) := by
  intro value slice pins sh σ H x y v u Q I rx ry h hs
  obtain ⟨a, w, rfl, g, q⟩ := h
  obtain rfl : v = Value.ref a := rx
  have hT := dgo_typeIs I g
  unfold subscriptTail
  refine wpAny_bind ?_
  rw [getitemInPython_of_ne hT.not_modules]
  refine wpAny_bind (wpAny_specialOf hT PySem.F.slot_dict_getitem.lookup ?_)
  have fin : wpAny (model X.prog X.w) X.A (subscripted slice false (.ref a) u) (fun r s₃ => wpAny (model X.prog X.w) X.A (letTemporaryGo value (.ref a) r >>= fun _ => pure r) (EP X pins σ Q) X.xe s₃) X.xe sh := by
    rw [hs]
    exact wpAny_operating (wpAny_mono (dgo_item hu hW I g ry fun w' s3 I3 rw' => (⟨w, H, I3, rw', q⟩ : EP X pins σ Q w' s3)) (fun r s₃ h₃ => wpAny_bind (wpAny_letTemporaryGo (wpAny_pure h₃))) fun _ _ x => x)
  first
    | exact wpAny_pure (wpAny_bind fin)
    | exact wpAny_bind (wpAny_pure (wpAny_bind fin))
    | exact wpAny_bind fin
theorem de_ix {ta tb : PTL} (hu : X.A.units + 64 < cLine) (hW : SameW X) (ha : DL X ea ta) (hb : DL X eb tb) (hs : PlainIx eb := by exact fun _ _ => rfl) : DE X (.Subscript ea eb pos) (tBin ixD ta tb) := by
  refine ⟨PE.weak (pe_ix ((ix_list.or (ix_tup.or ix_str)).or (ix_dic (hu1 hu) hW)) ha.pe hb.pe hs) fun σ H Q ⟨p, O, s, R, q⟩ => two ha hb R q ?_, mono_bin ha.mono hb.mono⟩
  rintro x y vx vy O' H' s' R' k' a1 a2 ⟨dx, dy, z, e1, e2, e3, q3⟩
  have ax := R'.read a1 e1
  have ay := R'.read a2 e2
  unfold ixD at e3
  split at e3
  · obtain ⟨a, xs, rfl, h1, h2⟩ := ax.lst
    cases ay.int
    obtain ⟨w, f1, f2⟩ := h2.atI e3
    exact .inl (.inl ⟨a, xs, _, w, rfl, rfl, SqL.of h1, f1, q3 w O' H' R' k' f2⟩)
  · obtain ⟨a, xs, rfl, h1, h2⟩ := ax.tup
    cases ay.int
    obtain ⟨w, f1, f2⟩ := h2.atI e3
    exact .inl (.inr (.inl ⟨a, xs, _, w, rfl, rfl, h1.sq, f1, q3 w O' H' R' k' f2⟩))
  · split at e3
    · rename_i hz
      cases ax.str
      cases ay.int
      cases q : L2.atI _ _ with
      | none => rw [q] at e3; cases e3
      | some c =>
        rw [q] at e3
        cases e3
        exact .inl (.inr (.inr ⟨_, _, c, rfl, rfl, hz, q, q3 _ O' H' R' k' (.str _)⟩))
    · cases e3
  · split at e3
    · rename_i f
      obtain ⟨a, o, rfl, g, g1, g2⟩ := ax.dget ay f
      obtain ⟨w, rfl, hw⟩ := g1 _ e3
      exact .inr ⟨a, w, rfl, g, q3 w O' H' R' k' hw⟩
    · cases e3
  · cases e3

/-! ### slices -/
def cutD (xs : List PyData) (lo hi : Option Int) : List PyData := (xs.drop (HT.sIx xs.length 0 lo)).take (HT.sIx xs.length xs.length hi - HT.sIx xs.length 0 lo)
theorem AtL.cut {xs : List V} {ds : List PyData} (h : AtL K O H xs ds) (lo hi : Option Int) : AtL K O H (cutV xs lo hi) (cutD ds lo hi) := by
  unfold cutV cutD
  rw [h.len]
  exact (h.drop _).take _
theorem cutV_whole {xs : List V} {lo hi : Option Int} (h : HT.sIx xs.length 0 lo = 0 ∧ HT.sIx xs.length xs.length hi = xs.length) : cutV xs lo hi = xs := by
  unfold cutV
  rw [h.1, h.2]
  simp
abbrev PTO := PSt → (Option Int → PSt → Prop) → Prop
def liftO (K : PySem.W.Frag) (t : PTO) : TO := fun σ H QV => ∃ p O s, Rl K p O σ H s ∧ t s fun o s' => ∀ O' H', Rl K p O' σ H' s' → Kp O H O' H' → QV o H'
structure DO (X : Cx) (e : Option Expr) (t : PTO) : Prop where
  po : PO X e (liftO X.K t)
  mono : ∀ s Q Q', (∀ d s', Q d s' → Q' d s') → t s Q → t s Q'
theorem PO.weak {X : Cx} {e : Option Expr} {t t' : TO} (h : PO X e t) (w : ∀ σ H Q, t' σ H Q → t σ H Q) : PO X e t' := ⟨fun pins s σ H Q I q => h.run pins s σ H Q I (w _ _ _ q)⟩
@[simp] def tNoP : PTO := fun s Q => Q none s
@[simp] def tPrt (t : PTE) : PTO := fun s Q => t s fun d s' => ∃ i, d = .int i ∧ Q (some i) s'
theorem do_none : DO X none tNoP := ⟨PO.weak po_none fun σ H Q ⟨p, O, s, R, q⟩ => q O H R .refl, fun s Q Q' w q => w _ _ q⟩
theorem do_some {t : PTE} (h : DE X e t) : DO X (some e) (tPrt t) :=
  ⟨PO.weak (po_some h.pe) fun σ H Q ⟨p, O, s, R, q⟩ => ⟨p, O, s, R, h.mono _ _ _ (fun d s' ⟨i, ei, q⟩ v O' H' R' k' a => by
    subst ei
    cases a
    exact ⟨i, rfl, q O' H' R' k'⟩) q⟩, fun s Q Q' w q => h.mono _ _ _ (fun d s' ⟨i, ei, q⟩ => ⟨i, ei, w _ _ q⟩) q⟩
def slD (d : PyData) (lo hi : Option Int) : Option PyData := match d with
  | .list xs => some (.list (cutD xs lo hi))
  | .tuple xs => some (.tuple (cutD xs lo hi))
  | .str z => if z.length ≤ sizeLine then some (.str (cutS z lo hi)) else none
  | _ => none
def slF (d : PyData) (lo hi : Option Int) : Option PyData := match d with
  | .list xs => some (.list (cutD xs lo hi))
  | _ => none
@[simp] def tSlc (f : PyData → Option Int → Option Int → Option PyData) (t : PTL) (tl th : PTO) : PTE := fun s Q => t s fun x s1 => tl s1 fun l s2 => th s2 fun h s3 => ∃ d z, rd s3 x = some d ∧ f d l h = some z ∧ Q z s3
theorem mono_slc {f : PyData → Option Int → Option Int → Option PyData} {t : PTL} {tl th : PTO} {lo hi : Option Expr} (ha : DL X e t) (hl : DO X lo tl) (hh : DO X hi th) : Mono (tSlc f t tl th) := fun s Q Q' w q =>
  ha.mono _ _ _ (fun x s1 q1 => hl.mono _ _ _ (fun l s2 q2 => hh.mono _ _ _ (fun h s3 ⟨d, z, e1, e2, q3⟩ => ⟨d, z, e1, e2, w _ _ q3⟩) q2) q1) q
theorem slc_of {t : PTL} {tl th : PTO} {lo hi : Option Expr} {r : V → Option Int → Option Int → Hp → VK → Prop} {Q : VK} {U : Rv → Option Int → Option Int → PSt → Prop} (ha : DL X e t) (hl : DO X lo tl) (hh : DO X hi th) (R : Rl X.K p O σ H s)
    (q : t s fun x s1 => tl s1 fun l s2 => th s2 fun h s3 => U x l h s3)
    (k : ∀ x l h vx O' H' s', Rl X.K p O' σ H' s' → Kp O H O' H' → RvOk X.K p O' σ H' vx x → U x l h s' → r vx l h H' Q) :
    L2.tSl r (liftL X.K t) (liftO X.K tl) (liftO X.K th) σ H Q :=
  ⟨p, O, s, R, ha.mono _ _ _ (fun x s1 q1 vx O1 H1 R1 k1 a1 => ⟨p, O1, s1, R1, hl.mono _ _ _ (fun l s2 q2 O2 H2 R2 k2 => ⟨p, O2, s2, R2, hh.mono _ _ _ (fun h s3 q3 O3 H3 R3 k3 =>
    k x l h vx O3 H3 s3 R3 ((k1.trans k2).trans k3) (a1.to (k2.trans k3)) q3) q2⟩) q1⟩) q⟩
variable {lo hi : Option Expr} {p2 : Pos}
theorem de_slice {t : PTL} {tl th : PTO} (ha : DL X e t) (hl : DO X lo tl) (hh : DO X hi th) : DE X (.Subscript e (.Slice lo hi none p2) pos) (tSlc slD t tl th) := by
  refine ⟨PE.weak (pe_slice (sl_list.or (sl_tupN.or sl_str)) ha.pe hl.po hh.po) fun σ H Q ⟨p, O, s, R, q⟩ => slc_of ha hl hh R q ?_, mono_slc ha hl hh⟩
  rintro x l h vx O' H' s' R' k' a1 ⟨d, z, e1, e2, q3⟩
  have ax := R'.read a1 e1
  unfold slD at e2
  split at e2
  · cases e2
    obtain ⟨a, xs, rfl, h1, h2⟩ := ax.lst
    refine .inl ⟨a, xs, rfl, SqL.of h1, fun q hq => ?_⟩
    obtain ⟨f1, f2, f3⟩ := fin_lst R' hq (h2.cut l h)
    exact q3 _ _ _ f1 (k'.trans f2) f3
  · cases e2
    obtain ⟨a, xs, rfl, h1, h2⟩ := ax.tup
    refine .inr (.inl ⟨a, xs, rfl, h1.sq, fun w => q3 _ O' H' R' k' ?_, fun q o hq ho => ?_⟩)
    · have := h2.cut l h
      rw [w] at this
      exact .tup h1 this
    · obtain ⟨f1, f2, f3⟩ := fin_tup R' hq ho (h2.cut l h)
      exact q3 _ _ _ f1 (k'.trans f2) f3
  · split at e2
    · rename_i hz
      cases e2
      cases ax.str
      exact .inr (.inr ⟨_, rfl, hz, q3 _ O' H' R' k' (.str _)⟩)
    · cases e2
  · cases e2
theorem df_slice {t : PTL} {tl th : PTO} (ha : DL X e t) (hl : DO X lo tl) (hh : DO X hi th) : DF X (.Subscript e (.Slice lo hi none p2) pos) (tSlc slF t tl th) := by
  refine ⟨PE.weak (pe_slice sl_list ha.pe hl.po hh.po) fun σ H Q ⟨p, O, s, R, q⟩ => slc_of ha hl hh R q ?_, mono_slc ha hl hh⟩
  rintro x l h vx O' H' s' R' k' a1 ⟨d, z, e1, e2, q3⟩
  have ax := R'.read a1 e1
  unfold slF at e2
  split at e2
  · cases e2
    obtain ⟨a, xs, rfl, h1, h2⟩ := ax.lst
    refine ⟨a, xs, rfl, SqL.of h1, fun q hq => ?_⟩
    obtain ⟨f1, f2, f3⟩ := fin_lone R' hq (h2.cut l h)
    exact q3 _ _ _ f1 (k'.trans f2) f3
  · cases e2
/-! xs[::-1] of a list -/
def tRv (t : PTL) : PTE := fun s Q => t s fun x s' => ∃ ds, rd s' x = some (.list ds) ∧ Q (.list ds.reverse) s'
theorem df_rev {t : PTL} {k : Nat} {q1 q2 q3 : Pos} (ha : DL X e t) : DF X (.Subscript e (.Slice none none (some (.UnaryOp .USub (.Constant (.int 1) k q1) q2)) q3) pos) (tRv t) :=
  ⟨PE.weak (pe_revL ha.pe) fun σ H Q ⟨p, O, s, R, q⟩ => ⟨p, O, s, R, ha.mono _ _ _ (fun x s' ⟨ds, e, q⟩ v O' H' R' k' a => by
    obtain ⟨b, xs, rfl, h1, h2⟩ := (R'.read a e).lst
    refine ⟨b, xs, rfl, SqL.of h1, fun l hl => ?_⟩
    obtain ⟨f1, f2, f3⟩ := fin_lone R' hl h2.reverse
    exact q _ _ _ f1 (k'.trans f2) f3) q⟩, fun s Q Q' w q => ha.mono _ _ _ (fun x s' ⟨ds, e, q⟩ => ⟨ds, e, w _ _ q⟩) q⟩
end
end PD
end
section
set_option Elab.async false
set_option linter.all false
set_option maxRecDepth 100000
set_option maxHeartbeats 4000000
/-! PD7: calls of built-ins over data. -/
namespace PD
variable [TB]
open PySem PySem.Spec PyProof.Rows L2

inductive RvL (K : PySem.W.Frag) (p : Pm) (O : Ow) (σ : L2.St) (H : Hp) : List V → List Rv → Prop
  | nil : RvL K p O σ H [] []
  | cons {v : V} {vs : List V} {r : Rv} {rs : List Rv} : RvOk K p O σ H v r → RvL K p O σ H vs rs → RvL K p O σ H (v :: vs) (r :: rs)
inductive AtEL (K : PySem.W.Frag) (O : Ow) (H : Hp) : List V → List PyData → Prop
  | nil : AtEL K O H [] []
  | cons {v : V} {vs : List V} {r : PyData} {rs : List PyData} : AtE K O H v r → AtEL K O H vs rs → AtEL K O H (v :: vs) (r :: rs)
@[simp] def rds (s : PSt) : List Rv → Option (List PyData)
  | [] => some []
  | r :: rs => (rd s r).bind fun d => (rds s rs).map (d :: ·)
abbrev PTLs := PSt → (List Rv → PSt → Prop) → Prop
def liftLs (K : PySem.W.Frag) (t : PTLs) : TA := fun σ H QV => ∃ p O s, Rl K p O σ H s ∧ t s fun rs s' => ∀ vs O' H', Rl K p O' σ H' s' → Kp O H O' H' → RvL K p O' σ H' vs rs → QV vs H'
structure DLs (X : Cx) (es : List Expr) (t : PTLs) : Prop where
  pa : PA X es (liftLs X.K t)
  mono : ∀ s Q Q', (∀ d s', Q d s' → Q' d s') → t s Q → t s Q'
section
variable {K : PySem.W.Frag} {X : Cx} {p : Pm} {O O' : Ow} {σ : L2.St} {H H' : Hp} {s : PSt} {v : V} {d : PyData} {a : Addr} {e ea eb : Expr} {es : List Expr} {pos : Pos}
theorem RvL.to (k : Kp O H O' H') : ∀ {vs : List V} {rs : List Rv}, RvL K p O σ H vs rs → RvL K p O' σ H' vs rs
  | _, _, .nil => .nil
  | _, _, .cons h t => .cons (h.to k) (RvL.to k t)
theorem Rl.reads (R : Rl K p O σ H s) : ∀ {vs : List V} {rs : List Rv} {ds : List PyData}, RvL K p O σ H vs rs → rds s rs = some ds → AtEL K O H vs ds
  | _, _, _, .nil, e => by cases e; exact .nil
  | _, _, ds, .cons (r := r) (rs := rs) h t, e => by
    unfold rds at e
    cases e1 : rd s r with
    | none => rw [e1] at e; cases e
    | some d =>
      cases e2 : rds s rs with
      | none => rw [e1, e2] at e; cases e
      | some ds' =>
        rw [e1, e2] at e
        cases e
        exact .cons (R.read h e1) (Rl.reads R t e2)
@[simp] def tNlL : PTLs := fun s Q => Q [] s
@[simp] def tCnL (t : PTL) (u : PTLs) : PTLs := fun s Q => t s fun r s1 => u s1 fun rs s2 => Q (r :: rs) s2
theorem dls_nil : DLs X [] tNlL := ⟨PA.weak pa_nil fun σ H Q ⟨p, O, s, R, q⟩ => q [] O H R .refl .nil, fun s Q Q' w q => w _ _ q⟩
theorem dls_cons {t : PTL} {u : PTLs} (h : DL X e t) (k : DLs X es u) (hs : starEach (e :: es) X.env = (false, eval e X.env) :: starEach es X.env := by rfl) : DLs X (e :: es) (tCnL t u) :=
  ⟨PA.weak (pa_cons h.pe k.pa hs) fun σ H Q ⟨p, O, s, R, q⟩ => ⟨p, O, s, R, h.mono _ _ _ (fun d s1 q1 v1 O1 H1 R1 k1 a1 => ⟨p, O1, s1, R1, k.mono _ _ _ (fun ds s2 q2 vs O2 H2 R2 k2 a2 => q2 (v1 :: vs) O2 H2 R2 (k1.trans k2) (.cons (a1.to k2) a2)) q1⟩) q⟩,
    fun s Q Q' w q => h.mono _ _ _ (fun d s1 q1 => k.mono _ _ _ (fun ds s2 => w (d :: ds) s2) q1) q⟩

/-- what a call's value may be: it stands already; it is a new list, a new tuple -/
def RsD (K : PySem.W.Frag) (H : Hp) (z : PyData) (Q : VK) : Prop := ∃ O : Ow, (∀ q, O q → H q ≠ none) ∧ (∀ w, At K O H w z → Q w H) ∧ (∀ q vs ds, H q = none → z = .list ds → AtL K O H vs ds → Q (.ref q) (upd H q (.lst vs))) ∧ (∀ vs ds, z = .tuple ds → AtL K O H vs ds → NewT H vs Q)
/-- .. for arguments: the same O -/
def CallD (X : Cx) (f : Value) (g : List PyData → Option PyData) : Prop :=
  CallR X f fun xs H Q => ∃ (O : Ow) (ds : List PyData) (z : PyData), AtEL X.K O H xs ds ∧ g ds = some z ∧ (∀ w, At X.K O H w z → Q w H) ∧ (∀ q vs ls, H q = none → z = .list ls → AtL X.K O H vs ls → Q (.ref q) (upd H q (.lst vs))) ∧ (∀ vs ls, z = .tuple ls → AtL X.K O H vs ls → NewT H vs Q)
/-- .. always a new list -/
def CallF (X : Cx) (f : Value) (g : List PyData → Option (List PyData)) : Prop :=
  CallR X f fun xs H Q => ∃ (O : Ow) (ds ls : List PyData), AtEL X.K O H xs ds ∧ g ds = some ls ∧ ∀ q vs, H q = none → AtL X.K O H vs ls → Q (.ref q) (upd H q (.lst vs))
@[simp] def tCl (g : List PyData → Option PyData) (t : PTLs) : PTE := fun s Q => t s fun rs s' => ∃ ds z, rds s' rs = some ds ∧ g ds = some z ∧ Q z s'
@[simp] def tClF (g : List PyData → Option (List PyData)) (t : PTLs) : PTE := fun s Q => t s fun rs s' => ∃ ds z, rds s' rs = some ds ∧ g ds = some z ∧ Q (.list z) s'
theorem mono_cl {g : List PyData → Option PyData} {t : PTLs} (h : DLs X es t) : Mono (tCl g t) := fun s Q Q' w q => h.mono _ _ _ (fun rs s' ⟨ds, z, e1, e2, q⟩ => ⟨ds, z, e1, e2, w _ _ q⟩) q
theorem mono_clF {g : List PyData → Option (List PyData)} {t : PTLs} (h : DLs X es t) : Mono (tClF g t) := fun s Q Q' w q => h.mono _ _ _ (fun rs s' ⟨ds, z, e1, e2, q⟩ => ⟨ds, z, e1, e2, w _ _ q⟩) q
section
variable {x : Str} {p' : Pos} {g : List PyData → Option PyData} {gF : List PyData → Option (List PyData)} {t : PTLs} {id T : String}
theorem cl_read {r : List V → Hp → VK → Prop} (h : DLs X es t) (w : ∀ (p : Pm) (O : Ow) (σ : L2.St) (s' : PSt) H' Q vs ds z, Rl X.K p O σ H' s' → AtEL X.K O H' vs ds → g ds = some z → (∀ v O2 H2, Rl X.K p O2 σ H2 s' → Kp O H' O2 H2 → At X.K O2 H2 v z → Q v H2) → r vs H' Q) :
    ∀ (σ : L2.St) (H : Hp) (Q : VK), lift X.K (tCl g t) σ H Q → tCB r (liftLs X.K t) σ H Q := fun σ H Q ⟨p, O, s, R, q⟩ => ⟨p, O, s, R, h.mono _ _ _ (fun rs s' ⟨ds, z, e1, e2, q⟩ vs O' H' R' k' a =>
      w p O' σ s' H' Q vs ds z R' (R'.reads a e1) e2 fun v O2 H2 R2 k2 a2 => q v O2 H2 R2 (k'.trans k2) a2) q⟩
theorem clF_read {r : List V → Hp → VK → Prop} (h : DLs X es t) (w : ∀ (p : Pm) (O : Ow) (σ : L2.St) (s' : PSt) H' Q vs ds z, Rl X.K p O σ H' s' → AtEL X.K O H' vs ds → gF ds = some z → (∀ a O2 H2, Rl X.K p O2 σ H2 s' → Kp O H' O2 H2 → Lone X.K p O2 σ H2 s' a (.list z) → Q (.ref a) H2) → r vs H' Q) :
    ∀ (σ : L2.St) (H : Hp) (Q : VK), liftF X.K (tClF gF t) σ H Q → tCB r (liftLs X.K t) σ H Q := fun σ H Q ⟨p, O, s, R, q⟩ => ⟨p, O, s, R, h.mono _ _ _ (fun rs s' ⟨ds, z, e1, e2, q⟩ vs O' H' R' k' a =>
      w p O' σ s' H' Q vs ds z R' (R'.reads a e1) e2 fun v O2 H2 R2 k2 a2 => q v O2 H2 R2 (k'.trans k2) a2) q⟩
theorem callD_ok {p : Pm} {O : Ow} {σ : L2.St} {s' : PSt} {H' : Hp} {Q : VK} {vs : List V} {ds : List PyData} {z : PyData} (R : Rl X.K p O σ H' s') (a : AtEL X.K O H' vs ds) (e : g ds = some z) (k : ∀ v O2 H2, Rl X.K p O2 σ H2 s' → Kp O H' O2 H2 → At X.K O2 H2 v z → Q v H2) :
    ∃ (O : Ow) (ds : List PyData) (z : PyData), AtEL X.K O H' vs ds ∧ g ds = some z ∧ (∀ w, At X.K O H' w z → Q w H') ∧ (∀ q vs ls, H' q = none → z = .list ls → AtL X.K O H' vs ls → Q (.ref q) (upd H' q (.lst vs))) ∧ (∀ vs ls, z = .tuple ls → AtL X.K O H' vs ls → NewT H' vs Q) := by
  refine ⟨O, ds, z, a, e, fun w aw => k w O H' R .refl aw, fun q vs ls hq ez l => ?_, fun vs ls ez l q o hq ho => ?_⟩
  · subst ez
    obtain ⟨f1, f2, f3⟩ := fin_lst R hq l
    exact k _ _ _ f1 f2 f3
  · subst ez
    obtain ⟨f1, f2, f3⟩ := fin_tup R hq ho l
    exact k _ _ _ f1 f2 f3
theorem de_callB (hc : CallD X (.builtin id) g) (hg : Gl X x) (hm : X.mg x = none) (hv : bootBuiltins x = some (.builtin id)) (ha : DLs X (e :: es) t) (hn : x ≠ "__name__" := by decide) (hdb : (x == ("__debug__" : Str)) = false := by decide)
    (he : starEach (e :: es) X.env = (false, eval e X.env) :: starEach es X.env := by rfl) (hpl : (backTo pos (starEach es X.env)).any (·.1) = false := by rfl) : DE X (.Call (.Name x p') (e :: es) [] pos) (tCl g t) :=
  ⟨PE.weak (pe_callB hc hg hm hv ha.pa hn hdb he hpl) (cl_read ha fun p O σ s' H' Q vs ds z R a e k => callD_ok R a e k), mono_cl ha⟩
theorem de_callTy (hc : CallD X (.type T) g) (hg : Gl X x) (hm : X.mg x = none) (hv : bootBuiltins x = some (.type T)) (ha : DLs X (e :: es) t) (hn : x ≠ "__name__" := by decide) (hdb : (x == ("__debug__" : Str)) = false := by decide)
    (he : starEach (e :: es) X.env = (false, eval e X.env) :: starEach es X.env := by rfl) (hpl : (backTo pos (starEach es X.env)).any (·.1) = false := by rfl) : DE X (.Call (.Name x p') (e :: es) [] pos) (tCl g t) :=
  ⟨PE.weak (pe_callTy hc hg hm hv ha.pa hn hdb he hpl) (cl_read ha fun p O σ s' H' Q vs ds z R a e k => callD_ok R a e k), mono_cl ha⟩
theorem callF_ok {p : Pm} {O : Ow} {σ : L2.St} {s' : PSt} {H' : Hp} {Q : VK} {vs : List V} {ds z : List PyData} (R : Rl X.K p O σ H' s') (a : AtEL X.K O H' vs ds) (e : gF ds = some z) (k : ∀ a O2 H2, Rl X.K p O2 σ H2 s' → Kp O H' O2 H2 → Lone X.K p O2 σ H2 s' a (.list z) → Q (.ref a) H2) :
    ∃ (O : Ow) (ds ls : List PyData), AtEL X.K O H' vs ds ∧ gF ds = some ls ∧ ∀ q vs, H' q = none → AtL X.K O H' vs ls → Q (.ref q) (upd H' q (.lst vs)) := by
  refine ⟨O, ds, z, a, e, fun q vs hq l => ?_⟩
  obtain ⟨f1, f2, f3⟩ := fin_lone R hq l
  exact k _ _ _ f1 f2 f3
theorem df_callB (hc : CallF X (.builtin id) gF) (hg : Gl X x) (hm : X.mg x = none) (hv : bootBuiltins x = some (.builtin id)) (ha : DLs X (e :: es) t) (hn : x ≠ "__name__" := by decide) (hdb : (x == ("__debug__" : Str)) = false := by decide)
    (he : starEach (e :: es) X.env = (false, eval e X.env) :: starEach es X.env := by rfl) (hpl : (backTo pos (starEach es X.env)).any (·.1) = false := by rfl) : DF X (.Call (.Name x p') (e :: es) [] pos) (tClF gF t) :=
  ⟨PE.weak (pe_callB hc hg hm hv ha.pa hn hdb he hpl) (clF_read ha fun p O σ s' H' Q vs ds z R a e k => callF_ok R a e k), mono_clF ha⟩
theorem df_callTy (hc : CallF X (.type T) gF) (hg : Gl X x) (hm : X.mg x = none) (hv : bootBuiltins x = some (.type T)) (ha : DLs X (e :: es) t) (hn : x ≠ "__name__" := by decide) (hdb : (x == ("__debug__" : Str)) = false := by decide)
    (he : starEach (e :: es) X.env = (false, eval e X.env) :: starEach es X.env := by rfl) (hpl : (backTo pos (starEach es X.env)).any (·.1) = false := by rfl) : DF X (.Call (.Name x p') (e :: es) [] pos) (tClF gF t) :=
  ⟨PE.weak (pe_callTy hc hg hm hv ha.pa hn hdb he hpl) (clF_read ha fun p O σ s' H' Q vs ds z R a e k => callF_ok R a e k), mono_clF ha⟩
end

/-! ### the built-ins -/
theorem AtEL.one {vs : List V} (h : AtEL K O H vs [d]) : ∃ v, vs = [v] ∧ AtE K O H v d := by
  cases h with
  | cons h1 h2 => cases h2; exact ⟨_, rfl, h1⟩
theorem AtEL.two {d' : PyData} {vs : List V} (h : AtEL K O H vs [d, d']) : ∃ v w, vs = [v, w] ∧ AtE K O H v d ∧ AtE K O H w d' := by
  cases h with
  | cons h1 h2 => cases h2 with
    | cons h3 h4 => cases h4; exact ⟨_, _, rfl, h1, h3⟩
def lenD : List PyData → Option PyData
  | [.list xs] => some (.int xs.length)
  | [.tuple xs] => some (.int xs.length)
  | [.str z] => if z.length ≤ sizeLine then some (.int z.length) else none
  | [.dict ((.bool false, .none) :: ds)] => some (.int ds.length)
  | _ => none
theorem AtK.len {vs : List (Key × V)} {ds : List (PyData × PyData)} : AtK K O H vs ds → vs.length = ds.length := by
  intro h
  induction vs generalizing ds with
  | nil => cases h; rfl
  | cons v vs ih => cases h with
    | cons h1 h2 => rw [List.length_cons, List.length_cons, ih h2]
theorem call_lenP : CallD X (.builtin "len") lenD := by
  intro pins sh σ H xs us Q I rv h
  obtain ⟨O, ds, z, a, e, k, _, _⟩ := h
  unfold lenD at e
  split at e
  · cases e
    obtain ⟨v, rfl, av⟩ := a.one
    obtain ⟨b, ys, rfl, h1, h2⟩ := av.lst
    exact call_len_seq pins sh σ H _ us Q I rv ⟨b, ys, rfl, .inl (SqL.of h1), by rw [h2.len]; exact k _ (.int _)⟩
  · cases e
    obtain ⟨v, rfl, av⟩ := a.one
    obtain ⟨b, ys, rfl, h1, h2⟩ := av.tup
    exact call_len_seq pins sh σ H _ us Q I rv ⟨b, ys, rfl, .inr h1.sq, by rw [h2.len]; exact k _ (.int _)⟩
  · split at e
    · rename_i hz
      cases e
      obtain ⟨v, rfl, av⟩ := a.one
      cases av.str
      exact call_len_str pins sh σ H _ us Q I rv ⟨_, rfl, hz, k _ (.int _)⟩
    · cases e
  · rename_i ds
    cases e
    obtain ⟨v, rfl, av⟩ := a.one
    obtain ⟨b, rfl, ⟨_, kvs, h1, h2⟩ | ⟨h0, _⟩⟩ := AtE.dic (t := false) av
    · rw [← h2.len] at k
      obtain ⟨u, rfl, ru⟩ := vals1 rv
      cases ru
      exact d_len I h1 fun t s' I' => ⟨.int kvs.length, H, I', ⟨t, rfl⟩, k _ (.int _)⟩
    · cases h0
  · cases e
/-- isinstance(x, T): the type's name told -/
def isaD (f : PyData → Bool) : List PyData → Option PyData
  | [d] => if d.plain then some (.bool (f d)) else none
  | _ => none
end
end PD
end
section
set_option Elab.async false
set_option linter.all false
set_option maxRecDepth 100000
set_option maxHeartbeats 4000000
/-! PDS: sorted(x) of a tuple. -/
namespace PD
variable [TB]
open PySem PySem.Spec PyProof.Rows L2
section
variable {prog : Program} {w : World} {A : Around} {E : Value → Shared → Prop} {s : Shared}
abbrev filledH (h : Heap) (vs : List Value) : Heap := (h.push (seqObj "list" #[] 0)).update h.objs.size (Obj.mapSeq (· ++ vs.toArray))
theorem pushed_at (h : Heap) : (h.push (seqObj "list" #[] 0)).get? h.objs.size = some (seqObj "list" #[] 0) := Heap.get?_push_size _ rfl
/-- a tuple's items behind those of a new list -/
theorem extend_tuple {l : Addr} {vs : List Value} (hl : IsTup s.heap l vs.toArray) (hz : vs.length ≤ sizeLine) : wpAny (model prog w) A (Builtin.List.listExtendWith (.ref s.heap.objs.size) (.ref l) (.ref s.heap.objs.size)) (fun r s' => r = .done (.ret (.ref s.heap.objs.size)) ∧ s' = { s with heap := filledH s.heap vs }) (fun _ _ => False) { s with heap := s.heap.push (seqObj "list" #[] 0) } := by
  obtain ⟨o, h1, h2, n, h3⟩ := id hl
  have h4 : (s.heap.push (seqObj "list" #[] 0)).get? l = some o := Heap.get?_push_of_some _ h1
  have h5 := pushed_at s.heap
  have h6 : (#[] ++ vs.toArray : Array Value).size ≤ sizeLine + 1 := by
    rw [Array.size_append, List.size_toArray]
    show 0 + vs.length ≤ _
    omega
  have T : (Value.type "tuple" == Value.type "tuple") = true := rfl
  unfold Builtin.List.listExtendWith
  refine wpAny_bind (wpAny_typeOf (T := "tuple") ⟨o, h4, h2⟩ ?_)
  rw [if_pos (by rw [T, Bool.or_true])]
  refine wpAny_bind (listItems_at h4 h3 (wpAny_bind (listItems_at h5 rfl ?_)))
  rw [if_neg (by simp)]
  exact wpAny_bind (listUpdate_at h5 rfl (wpAny_pure ⟨rfl, rfl⟩) (Nat.zero_le _) h6)
/-- what a tuple's items are, gathered in a new list -/
theorem gather_tuple {l : Addr} {vs : List Value} {Q : List Value → Shared → Prop} (hl : IsTup s.heap l vs.toArray) (hz : vs.length ≤ sizeLine) (h : Q vs { s with heap := filledH s.heap vs }) : wpAny (model prog w) A (collect (.ref l)) Q E s := by
  unfold collect
  refine wpAny_bind (wpAny_runValue (codeAny_builtin entry_proto_collect' ?_))
  show wpAny _ _ (newList [] >>= fun x => again (.builtin "list.__iadd__" ⟨[x, .ref l], []⟩)) _ _ s
  have qk : Code.quiet (.builtin "list.__iadd__" ⟨[.ref s.heap.objs.size, .ref l], []⟩) = true := Code.quiet_builtin _ (by decide +kernel)
  refine wpAny_bind (wpAny_newList (wpAny_pure ⟨qk, codeAny_builtin entry_list_iadd' ?_⟩))
  refine wpAny_mono (extend_tuple hl hz) (fun r s' ⟨e1, e2⟩ => ?_) fun _ _ z => z.elim
  rw [e1, e2]
  show wpAny (model prog w) A (load s.heap.objs.size >>= _) Q E _
  refine wpAny_bind (wpAny_load (get?_update_seq (pushed_at s.heap) _) ?_)
  have e : ((#[] : Array Value) ++ vs.toArray).toList = vs := by simp
  show wpAny _ _ (pure ((#[] : Array Value) ++ vs.toArray).toList) Q E _
  rw [e]
  exact wpAny_pure h
section
variable {β : Type} {vs : List Value} {bs : List β} {enc : β → PyData} {R : Value → β → Prop}
theorem filled_size (h : Heap) (vs : List Value) : (filledH h vs).objs.size = h.objs.size + 1 := by rw [Heap.size_update, size_push']
/-- sorted(x) of a tuple x -/
theorem sorted_tuple {l : Addr} {Q : Value → Shared → Prop} (hl : IsTup s.heap l vs.toArray) (e : PySem.W.EachIs R vs bs) (er : PySem.W.EachIs (fun v b => ∃ as, Reads s.heap v (enc b) as) vs bs) (hal : PySem.W.AllAlike (bs.map enc)) (hk : PySem.W.Sortable (bs.map enc)) (hL : bs.length ≤ sizeLine)
    (hu : ∀ b, b ∈ bs → A.units + 2 + (enc b).depth < cLine)
    (h : ∀ out, out.length = bs.length → PySem.W.EachIs R out (bs.mergeSort (PySem.W.dataLe false enc)) → Q (.ref (s.heap.objs.size + 1)) { s with heap := sortedAll s.heap vs (List.toArray out) }) :
    wpAny (model prog w) A (call (.builtin "sorted") [.ref l]) Q E s := by
  have hv : vs.length ≤ sizeLine := by rw [e.length]; exact hL
  have kept : PySem.W.EachIs (fun v b => ∃ as, Reads (PySem.W.sortingHeap (PySem.W.copyHeap s.heap vs) (s.heap.objs.size + 1) vs) v (enc b) as) vs bs := er.mono fun _ _ ⟨as, r⟩ => ⟨as, PyProof.Rows.Reads.keeps (fun _ _ => PySem.W.sorting_copy_old) r⟩
  have S := PySem.W.SortsAt.data (prog := prog) (w := w) (A := A.in1.in1) (s := { s with heap := PySem.W.sortingHeap (PySem.W.copyHeap s.heap vs) (s.heap.objs.size + 1) vs }) (PySem.W.each_map (R := fun v d => ∃ as, Reads (PySem.W.sortingHeap (PySem.W.copyHeap s.heap vs) (s.heap.objs.size + 1) vs) v d as) enc kept) hal hk (PySem.W.bound_map hu)
  refine Calls.call_function_entry kind_sorted plain_sorted entry_sorted (args_sorted1 _) ?_
  unfold Builtin.«sorted»
  refine wpAny_bind (m := checkCount "sorted" 1 1 _) (wpAny_pure (wpAny_bind (gather_tuple hl hv (wpAny_bind (wpAny_newList ?_ hv)))))
  show wpAny _ _ _ _ _ { s with heap := PySem.W.copyHeap s.heap vs }
  rw [filled_size]
  refine wpAny_bind (wpAny_holding (wpAny_call_entry slot_list_sort ⟨_, PySem.W.copyHeap_at s.heap vs, rfl⟩ entry_list_sort ?body (args_list_sort _)))
  case body =>
    have q := h _ (by rw [PySem.W.sortVals_length false rfl]; exact e.length) (PySem.W.sortVals_data false e kept hal)
    refine wpAny_mono (PySem.W.list_sort_vals (prog := prog) (w := w) (A := A.in1.in1) (E := fun _ _ => False) (s := { s with heap := PySem.W.copyHeap s.heap vs }) (P := fun f s' => f = .done (.ret .none) ∧ Q (.ref (s.heap.objs.size + 1)) s') (PySem.W.copyHeap_at s.heap vs) S hv ⟨rfl, q⟩) (fun f s' hf => ?_) fun _ _ z => z.elim
    obtain ⟨rfl, hq⟩ := hf
    exact ⟨_, rfl, wpAny_pure ⟨_, rfl, hq⟩⟩
end
end
end PD
end
section
set_option Elab.async false
set_option linter.all false
set_option maxRecDepth 100000
set_option maxHeartbeats 4000000
/-! PDU: data read with the model's words. -/
namespace PD
variable [TB]
open PySem PySem.Spec PyProof.Rows L2
/-! data without the heads of dicts -/
def isNon : PyData → Bool
  | .none => true
  | _ => false
mutual
def std : PyData → PyData
  | .list ds => .list (stdAll ds)
  | .tuple ds => .tuple (stdAll ds)
  | .dict [] => .dict []
  | .dict ((k, _) :: ds) => if isNon k then .tuple (stdVs ds) else .dict (stdKv ds)
  | .none => .none
  | .bool b => .bool b
  | .int i => .int i
  | .str x => .str x
def stdAll : List PyData → List PyData
  | [] => []
  | d :: ds => std d :: stdAll ds
def stdKv : List (PyData × PyData) → List (PyData × PyData)
  | [] => []
  | (k, d) :: ds => (k, std d) :: stdKv ds
def stdVs : List (PyData × PyData) → List PyData
  | [] => []
  | (_, d) :: ds => std d :: stdVs ds
end
mutual
def noL : PyData → Bool
  | .list _ => false
  | .tuple ds => noLAll ds
  | .dict [] => true
  | .dict (_ :: ds) => noLKv ds
  | _ => true
def noLAll : List PyData → Bool
  | [] => true
  | d :: ds => noL d && noLAll ds
def noLKv : List (PyData × PyData) → Bool
  | [] => true
  | (_, d) :: ds => noL d && noLKv ds
end
section
variable {X : Cx} {pins : List (Addr × Obj)} {σ : L2.St} {H : Hp} {s : Shared} {O : Ow}
theorem keyD_reads {P : Program} {w : World} {h : Heap} {k : Key} {v : Value} (e : (mixKind P w).is k v = true) : Reads h v (keyD k) [] := by
  rcases keyIs_shape (show keyIs k v = true from e) with ⟨i, t, rfl, rfl⟩ | ⟨x, t, rfl, rfl⟩
  · exact Reads.int i t
  · exact Reads.str x t
theorem kV_reads {h : Heap} : ∀ {ks : List Key} {us : List Value}, Vals (ks.map kV) us → ReadsAll h us (ks.map keyD) []
  | [], _, r => by cases r; exact ReadsAll.nil
  | k :: ks, _, r => by
    cases r with
    | cons r1 r2 =>
      cases k with
      | inl i =>
        obtain ⟨t, rfl⟩ := r1
        exact ReadsAll.cons (as := []) (Reads.int i t) (kV_reads r2)
      | inr x =>
        obtain ⟨t, rfl⟩ := r1
        exact ReadsAll.cons (as := []) (Reads.str x t) (kV_reads r2)
theorem pairs_keys {P : Program} {w : World} {h : Heap} : ∀ {es : List DictEntry} {kvs : List (Key × Value)}, Pairs (mixKind P w) es kvs → ReadsAll h (es.map (·.key)) (kvs.map fun q => keyD q.1) []
  | _, _, .nil => ReadsAll.nil
  | _, _, .cons a b c => ReadsAll.cons (as := []) (keyD_reads a) (pairs_keys c)
theorem pairs_vals {P : Program} {w : World} : ∀ {es : List DictEntry} {kvs : List (Key × Value)}, Pairs (mixKind P w) es kvs → es.map (·.val) = kvs.map (·.2)
  | _, _, .nil => rfl
  | _, _, .cons a b c => by rw [List.map_cons, List.map_cons, b, pairs_vals c]
mutual
theorem At.readsS (I : Inv X pins σ H s) : ∀ (d : PyData) (v : V) (u : Value), At X.K O H v d → RelV v u → ∃ as, Reads s.heap u (std d) as ∧ (noL d = true → ∀ a ∈ as, (a == sysModules) = false)
  | .none, _, _, h, r => by cases h; cases r; exact ⟨[], by rw [std]; exact Reads.none, fun _ a z => nomatch z⟩
  | .bool b, _, _, h, r => by cases h; cases r; exact ⟨[], by rw [std]; exact Reads.bool b, fun _ a z => nomatch z⟩
  | .int i, _, _, h, r => by cases h; obtain ⟨t, rfl⟩ := r; exact ⟨[], by rw [std]; exact Reads.int i t, fun _ a z => nomatch z⟩
  | .str x, _, _, h, r => by cases h; obtain ⟨t, rfl⟩ := r; exact ⟨[], by rw [std]; exact Reads.str x t, fun _ a z => nomatch z⟩
  | .list ds, _, _, h, r => by
    cases h with
    | lst hs ha =>
      cases r
      obtain ⟨its, rv, ⟨o, n, ho, hc, _, hd'⟩, _⟩ := I.list hs.sq
      obtain ⟨as, hr, _⟩ := AtL.readsS I ds _ its ha rv
      exact ⟨_, by rw [std]; exact Reads.list ho hc hd' hr, fun z => by simp [noL] at z⟩
  | .tuple ds, _, _, h, r => by
    cases h with
    | tup hs ha =>
      cases r
      obtain ⟨its, rv, ⟨o, ho, hc, n, hd'⟩, _⟩ := I.tuple hs.sq
      obtain ⟨as, hr, hn⟩ := AtL.readsS I ds _ its ha rv
      exact ⟨_, by rw [std]; exact Reads.tuple ho hc hd' hr, fun z => hn (by simpa [noL] using z)⟩
  | .dict [], _, _, h, _ => by cases h
  | .dict ((_, _) :: ds), _, _, h, r => by
    cases h with
    | pr n hs ha =>
      cases r
      obtain ⟨_, its, rv, o, ho, hc, n, hd'⟩ := I.hok _ _ hs
      obtain ⟨as, hr, hn⟩ := AtP.readsS I ds _ its ha rv
      exact ⟨_, by rw [std]; exact Reads.tuple ho hc hd' hr, fun z => hn (by simpa [noL] using z)⟩
    | dicK n hs ha =>
      cases r
      obtain ⟨_, hn, vs, rv, o, es, ep, ho, ex, hd, _, hp, _⟩ := hs.ok I.hok
      obtain ⟨bs, hr, hb⟩ := AtK.readsS I ds _ vs ha rv
      have e1 : (stdKv ds).map (·.1) = vs.map fun q => keyD q.1 := hr.1
      refine ⟨_, by rw [std]; exact Reads.dict (as := []) ho ex.1 hd (by rw [e1]; exact pairs_keys hp) (by rw [pairs_vals hp]; exact hr.2), fun z a hm => ?_⟩
      rcases List.mem_cons.mp (show a ∈ _ :: bs from by simpa using hm) with q | q
      · rw [q]; exact hn
      · exact hb (by simpa [noL] using z) a q
    | dicT n hs ha =>
      cases r
      obtain ⟨_, hn, _, o, es, ep, ho, ex, hd, he⟩ := dx_rd I hs
      obtain ⟨bs, hr, hb⟩ := AtT.readsS I ds _ ha
      refine ⟨_, by rw [std]; exact Reads.dict (as := []) ho ex.1 hd (by rw [he, List.map_map]; exact hr.1) (by rw [he, List.map_map]; exact hr.2), fun z a hm => ?_⟩
      rcases List.mem_cons.mp (show a ∈ _ :: bs from by simpa using hm) with q | q
      · rw [q]; exact hn
      · exact hb (by simpa [noL] using z) a q
theorem AtL.readsS (I : Inv X pins σ H s) : ∀ (ds : List PyData) (vs : List V) (us : List Value), AtL X.K O H vs ds → Vals vs us → ∃ as, ReadsAll s.heap us (stdAll ds) as ∧ (noLAll ds = true → ∀ a ∈ as, (a == sysModules) = false)
  | [], _, _, h, r => by cases h; cases r; exact ⟨[], by rw [stdAll]; exact ReadsAll.nil, fun _ a z => nomatch z⟩
  | d :: ds, _, _, h, r => by
    cases h with
    | cons h1 h2 =>
      cases r with
      | cons r1 r2 =>
        obtain ⟨as, q1, n1⟩ := At.readsS I d _ _ h1 r1
        obtain ⟨bs, q2, n2⟩ := AtL.readsS I ds _ _ h2 r2
        refine ⟨_, by rw [stdAll]; exact ReadsAll.cons q1 q2, fun z a hm => ?_⟩
        have z : noL d = true ∧ noLAll ds = true := by simpa [noLAll] using z
        rcases List.mem_append.mp hm with q | q
        · exact n1 z.1 a q
        · exact n2 z.2 a q
theorem AtK.readsS (I : Inv X pins σ H s) : ∀ (ds : List (PyData × PyData)) (kvs : List (Key × V)) (vs : List (Key × Value)), AtK X.K O H kvs ds → KV kvs vs → ∃ as, ((stdKv ds).map (·.1) = (vs.map fun q => keyD q.1) ∧ ReadsAll s.heap (vs.map (·.2)) ((stdKv ds).map (·.2)) as) ∧ (noLKv ds = true → ∀ a ∈ as, (a == sysModules) = false)
  | [], _, _, h, r => by cases h; cases r; exact ⟨[], ⟨by rw [stdKv]; rfl, by rw [stdKv]; exact ReadsAll.nil⟩, fun _ a z => nomatch z⟩
  | (k, d) :: ds, _, _, h, r => by
    cases h with
    | cons h1 h2 =>
      cases r with
      | cons r1 r2 =>
        obtain ⟨ek, r1⟩ := r1
        obtain ⟨as, q1, n1⟩ := At.readsS I d _ _ h1 r1
        obtain ⟨bs, ⟨q2, q3⟩, n2⟩ := AtK.readsS I ds _ _ h2 r2
        refine ⟨_, ⟨by rw [stdKv, List.map_cons, List.map_cons, q2, ← ek], by rw [stdKv]; exact ReadsAll.cons q1 q3⟩, fun z a hm => ?_⟩
        have z : noL d = true ∧ noLKv ds = true := by simpa [noLKv] using z
        rcases List.mem_append.mp hm with q | q
        · exact n1 z.1 a q
        · exact n2 z.2 a q
theorem AtT.readsS (I : Inv X pins σ H s) : ∀ (ds : List (PyData × PyData)) (xs : List (List Key × Addr × Value)), AtT X.K O H xs ds →
    ∃ as, (ReadsAll s.heap (xs.map fun q => Value.ref q.2.1) ((stdKv ds).map (·.1)) [] ∧ ReadsAll s.heap (xs.map fun q => q.2.2) ((stdKv ds).map (·.2)) as) ∧ (noLKv ds = true → ∀ a ∈ as, (a == sysModules) = false)
  | [], _, h => by cases h; exact ⟨[], ⟨by rw [stdKv]; exact ReadsAll.nil, by rw [stdKv]; exact ReadsAll.nil⟩, fun _ a z => nomatch z⟩
  | (k, d) :: ds, _, h => by
    cases h with
    | cons h0 r1 h1 h2 =>
      obtain ⟨as, q1, n1⟩ := At.readsS I d _ _ h1 r1
      obtain ⟨bs, ⟨q2, q3⟩, n2⟩ := AtT.readsS I ds _ h2
      obtain ⟨its, rv, ⟨o, ho, hc, n, hd⟩, _⟩ := I.tuple h0.sq
      refine ⟨_, ⟨?_, by rw [stdKv]; exact ReadsAll.cons q1 q3⟩, fun z a hm => ?_⟩
      · rw [stdKv]
        exact ReadsAll.cons (as := []) (Reads.tuple ho hc hd (by simpa using kV_reads rv)) q2
      · have z : noL d = true ∧ noLKv ds = true := by simpa [noLKv] using z
        rcases List.mem_append.mp hm with q | q
        · exact n1 z.1 a q
        · exact n2 z.2 a q
theorem AtP.readsS (I : Inv X pins σ H s) : ∀ (ds : List (PyData × PyData)) (vs : List V) (us : List Value), AtP X.K O H vs ds → Vals vs us → ∃ as, ReadsAll s.heap us (stdVs ds) as ∧ (noLKv ds = true → ∀ a ∈ as, (a == sysModules) = false)
  | [], _, _, h, r => by cases h; cases r; exact ⟨[], by rw [stdVs]; exact ReadsAll.nil, fun _ a z => nomatch z⟩
  | (_, d) :: ds, _, _, h, r => by
    cases h with
    | cons h1 h2 =>
      cases r with
      | cons r1 r2 =>
        obtain ⟨as, q1, n1⟩ := At.readsS I d _ _ h1 r1
        obtain ⟨bs, q2, n2⟩ := AtP.readsS I ds _ _ h2 r2
        refine ⟨_, by rw [stdVs]; exact ReadsAll.cons q1 q2, fun z a hm => ?_⟩
        have z : noL d = true ∧ noLKv ds = true := by simpa [noLKv] using z
        rcases List.mem_append.mp hm with q | q
        · exact n1 z.1 a q
        · exact n2 z.2 a q
end
end
end PD
end
section
set_option Elab.async false
set_option linter.all false
set_option maxRecDepth 100000
set_option maxHeartbeats 4000000
/-! PD8: more built-ins over data. -/
namespace PD
variable [TB]
open PySem PySem.Spec PyProof.Rows L2

section
variable {K : PySem.W.Frag} {X : Cx} {p : Pm} {O O' : Ow} {σ : L2.St} {H H' : Hp} {s : PSt} {v : V} {d : PyData} {a : Addr} {e ea eb : Expr} {es : List Expr} {pos : Pos}
/-! ### isinstance(x, T) -/
@[simp] def tIsa (f : PyData → Bool) (t : PTL) : PTE := fun s Q => t s fun r s' => ∃ d, rd s' r = some d ∧ Q (.bool (f d)) s'
/-- the rule of a type -/
def IsaR (X : Cx) (T : String) (f f' : PyData → Bool) : Prop := (∀ d, f' (std d) = f d) ∧ ∀ (sh : Shared) (u : Value) (d : PyData) (as : List Addr) (Q : Value → Shared → Prop), Reads sh.heap u d as → (∀ tk, Q (.bool (f' d)) { sh with toks := tk }) →
  wpAny (model X.prog X.w) X.A (call (.builtin "isinstance") [u, .type T]) Q X.xe sh
/-- a pair as a walk makes it -/
def isPr : PyData → Bool
  | .dict ((.none, _) :: _) => true
  | _ => false
def isTupD (d : PyData) : Bool := d.isTuple || isPr d
def isDicD (d : PyData) : Bool := d.isDict && !isPr d
@[simp] theorem isTupD_none : isTupD .none = false := rfl
@[simp] theorem isTupD_bool (b : Bool) : isTupD (.bool b) = false := rfl
@[simp] theorem isTupD_int (i : Int) : isTupD (.int i) = false := rfl
@[simp] theorem isTupD_str (x : Str) : isTupD (.str x) = false := rfl
@[simp] theorem isTupD_list (ds : List PyData) : isTupD (.list ds) = false := rfl
@[simp] theorem isTupD_tuple (ds : List PyData) : isTupD (.tuple ds) = true := rfl
@[simp] theorem isTupD_dic (t : Bool) (ds : List (PyData × PyData)) : isTupD (dicD t ds) = false := rfl
@[simp] theorem isDicD_none : isDicD .none = false := rfl
@[simp] theorem isDicD_bool (b : Bool) : isDicD (.bool b) = false := rfl
@[simp] theorem isDicD_int (i : Int) : isDicD (.int i) = false := rfl
@[simp] theorem isDicD_str (x : Str) : isDicD (.str x) = false := rfl
@[simp] theorem isDicD_list (ds : List PyData) : isDicD (.list ds) = false := rfl
@[simp] theorem isDicD_tuple (ds : List PyData) : isDicD (.tuple ds) = false := rfl
@[simp] theorem isDicD_dic (t : Bool) (ds : List (PyData × PyData)) : isDicD (dicD t ds) = true := rfl
theorem std_kind (f f' : PyData → Bool) (h0 : ∀ d, (∀ ds, d ≠ .list ds) → (∀ ds, d ≠ .tuple ds) → (∀ ds, d ≠ .dict ds) → f' d = f d) (h1 : ∀ ds es, f' (.list ds) = f (.list es)) (h2 : ∀ ds es, f' (.tuple ds) = f (.tuple es)) (h3 : f' (.dict []) = f (.dict []))
    (h4 : ∀ k x ds es, isNon k = false → f' (.dict ds) = f (.dict ((k, x) :: es))) (h5 : ∀ x ds es, f' (.tuple ds) = f (.dict ((.none, x) :: es))) : ∀ d, f' (std d) = f d
  | .none => by rw [std]; exact h0 _ (fun _ z => nomatch z) (fun _ z => nomatch z) fun _ z => nomatch z
  | .bool _ => by rw [std]; exact h0 _ (fun _ z => nomatch z) (fun _ z => nomatch z) fun _ z => nomatch z
  | .int _ => by rw [std]; exact h0 _ (fun _ z => nomatch z) (fun _ z => nomatch z) fun _ z => nomatch z
  | .str _ => by rw [std]; exact h0 _ (fun _ z => nomatch z) (fun _ z => nomatch z) fun _ z => nomatch z
  | .list ds => by rw [std]; exact h1 _ _
  | .tuple ds => by rw [std]; exact h2 _ _
  | .dict [] => by rw [std]; exact h3
  | .dict ((k, x) :: ds) => by
    rw [std]
    cases k with
    | none => exact h5 _ _ _
    | _ => exact h4 _ _ _ _ rfl
theorem non_pr {k x : PyData} {ds : List (PyData × PyData)} (h : isNon k = false) : isPr (.dict ((k, x) :: ds)) = false := by cases k <;> first | rfl | cases h
theorem flat_kind {f : PyData → Bool} (h : ∀ ds, f (.list ds) = false) (h2 : ∀ ds, f (.tuple ds) = false) (h3 : ∀ ds, f (.dict ds) = false) : ∀ d, f (std d) = f d :=
  std_kind f f (fun _ _ _ _ => rfl) (fun _ _ => by rw [h, h]) (fun _ _ => by rw [h2, h2]) rfl (fun _ _ _ _ _ => by rw [h3, h3]) fun _ _ _ => by rw [h2, h3]
theorem isa_int : IsaR X "int" PyData.isInt PyData.isInt := ⟨flat_kind (fun _ => rfl) (fun _ => rfl) fun _ => rfl, fun sh u d as Q r h => PySem.W.isinstance_int_data r fun tk _ => h tk⟩
theorem isa_bool : IsaR X "bool" PyData.isBool PyData.isBool := ⟨flat_kind (fun _ => rfl) (fun _ => rfl) fun _ => rfl, fun sh u d as Q r h => PySem.W.isinstance_bool_data r fun tk _ => h tk⟩
theorem isa_str : IsaR X "str" PyData.isStr PyData.isStr := ⟨flat_kind (fun _ => rfl) (fun _ => rfl) fun _ => rfl, fun sh u d as Q r h => PySem.W.isinstance_str_data r fun tk _ => h tk⟩
theorem isa_tuple : IsaR X "tuple" isTupD PyData.isTuple :=
  ⟨std_kind _ _ (fun d h1 h2 h3 => by cases d <;> first | rfl | exact absurd rfl (h2 _) | exact absurd rfl (h3 _)) (fun _ _ => rfl) (fun _ _ => rfl) rfl (fun k x ds es h => by show false = (false || isPr _); rw [non_pr h]; rfl) fun _ _ _ => rfl, fun sh u d as Q r h => PySem.W.isinstance_tuple_data r fun tk _ => h tk⟩
theorem isa_list : IsaR X "list" PyData.isList PyData.isList := ⟨std_kind _ _ (fun _ _ _ _ => rfl) (fun _ _ => rfl) (fun _ _ => rfl) rfl (fun _ _ _ _ _ => rfl) fun _ _ _ => rfl, fun sh u d as Q r h => PySem.W.isinstance_list_data r fun tk _ => h tk⟩
theorem isa_dict : IsaR X "dict" isDicD PyData.isDict :=
  ⟨std_kind _ _ (fun d h1 h2 h3 => by cases d <;> first | rfl | exact absurd rfl (h3 _)) (fun _ _ => rfl) (fun _ _ => rfl) rfl (fun k x ds es h => by show true = (true && !isPr _); rw [non_pr h]; rfl) fun _ _ _ => rfl, fun sh u d as Q r h => PySem.W.isinstance_dict_data r fun tk _ => h tk⟩
def rIsaD (K : PySem.W.Frag) (T : String) (f : PyData → Bool) : List V → Hp → VK → Prop := fun xs H Q => ∃ (O : Ow) (x : V) (d : PyData), xs = [x, .ty T] ∧ AtE K O H x d ∧ Q (.bl (f d)) H
theorem call_isaD {T : String} {f f' : PyData → Bool} (hr : IsaR X T f f') : CallR X (.builtin "isinstance") (rIsaD X.K T f) := by
  intro pins sh σ H xs us Q I rv h
  obtain ⟨O, x, d, rfl, a, q⟩ := h
  cases rv with
  | cons r1 r2 => cases r2 with
    | cons r2 r3 =>
      cases r3
      obtain rfl := (show _ = Value.type T from r2)
      obtain ⟨as, r, _⟩ := At.readsS I d x _ a.at0 r1
      exact hr.2 sh _ (std d) as _ r fun tk => ⟨.bl _, H, I.tok tk, rfl, by rw [hr.1]; exact q⟩
theorem de_isa {T : String} {x : Str} {p1 p2 : Pos} {f f' : PyData → Bool} {t : PTL} {y : Str} (hr : IsaR X T f f') (h : DL X e t) (hg : Gl X x) (hm : X.mg x = none) (hv : bootBuiltins x = some (.builtin "isinstance")) (hgT : Gl X y) (hmT : X.mg y = none) (hvT : bootBuiltins y = some (.type T))
    (hn : x ≠ "__name__" := by decide) (hdb : (x == ("__debug__" : Str)) = false := by decide) (hn2 : y ≠ "__name__" := by decide) (hdb2 : (y == ("__debug__" : Str)) = false := by decide) (he : starEach [e, .Name y p2] X.env = (false, eval e X.env) :: starEach [.Name y p2] X.env := by rfl) : DE X (.Call (.Name x p1) [e, .Name y p2] [] pos) (tIsa f t) := by
  refine ⟨PE.weak (pe_callB (call_isaD hr) hg hm hv (pa_cons h.pe (pa_cons (pe_bltn hgT hmT hvT (v := .ty T) rfl hn2 hdb2) pa_nil) he) hn hdb he) fun σ H Q ⟨p, O, s, R, q⟩ => ⟨p, O, s, R, h.mono _ _ _ (fun r s' ⟨d, e1, q⟩ v O' H' R' k' a => ?_) q⟩, fun s Q Q' w q => h.mono _ _ _ (fun r s' ⟨d, e1, q⟩ => ⟨d, e1, w _ _ q⟩) q⟩
  exact ⟨O', v, d, rfl, R'.read a e1, q _ O' H' R' k' (.bl _)⟩

/-! ### all, any -/
def boolsOf : List PyData → Option (List Bool)
  | [] => some []
  | .bool b :: r => (boolsOf r).map (b :: ·)
  | _ :: _ => none
theorem AtL.bools : ∀ {ds : List PyData} {vs : List V} {bs : List Bool}, AtL K O H vs ds → boolsOf ds = some bs → vs = bs.map V.bl
  | [], _, _, h, e => by cases h; cases e; rfl
  | d :: ds, _, bs, h, e => by
    cases h with
    | cons h1 h2 =>
      cases d with
      | bool b =>
        cases h1
        unfold boolsOf at e
        cases e2 : boolsOf ds with
        | none => rw [e2] at e; cases e
        | some bs' => rw [e2] at e; cases e; rw [AtL.bools h2 e2]; rfl
      | _ => cases e
def allD : List PyData → Option PyData
  | [.list ds] => (boolsOf ds).map fun bs => .bool (bs.all id)
  | _ => none
def anyD : List PyData → Option PyData
  | [.list ds] => (boolsOf ds).map fun bs => .bool (bs.any id)
  | _ => none
theorem call_allP (hc : X.calm = true) : CallD X (.builtin "all") allD := by
  intro pins sh σ H xs us Q I rv h
  obtain ⟨O, ds, z, a, e, k, _, _⟩ := h
  unfold allD at e
  split at e
  · obtain ⟨v, rfl, av⟩ := a.one
    obtain ⟨b, ys, rfl, h1, h2⟩ := av.lst
    cases eb : boolsOf _ with
    | none => rw [eb] at e; cases e
    | some bs =>
      rw [eb] at e
      cases e
      cases h2.bools eb
      exact cr_all hc pins sh σ H _ us Q I rv ⟨b, bs, rfl, SqL.of h1, k _ (.bl _)⟩
  · cases e
theorem call_anyP (hc : X.calm = true) : CallD X (.builtin "any") anyD := by
  intro pins sh σ H xs us Q I rv h
  obtain ⟨O, ds, z, a, e, k, _, _⟩ := h
  unfold anyD at e
  split at e
  · obtain ⟨v, rfl, av⟩ := a.one
    obtain ⟨b, ys, rfl, h1, h2⟩ := av.lst
    cases eb : boolsOf _ with
    | none => rw [eb] at e; cases e
    | some bs =>
      rw [eb] at e
      cases e
      cases h2.bools eb
      exact cr_any hc pins sh σ H _ us Q I rv ⟨b, bs, rfl, SqL.of h1, k _ (.bl _)⟩
  · cases e
/-! ### sum -/
def intsOf : List PyData → Option (List Int)
  | [] => some []
  | .int b :: r => (intsOf r).map (b :: ·)
  | _ :: _ => none
theorem AtL.ints : ∀ {ds : List PyData} {vs : List V} {bs : List Int}, AtL K O H vs ds → intsOf ds = some bs → vs = bs.map V.int
  | [], _, _, h, e => by cases h; cases e; rfl
  | d :: ds, _, bs, h, e => by
    cases h with
    | cons h1 h2 =>
      cases d with
      | int b =>
        cases h1
        unfold intsOf at e
        cases e2 : intsOf ds with
        | none => rw [e2] at e; cases e
        | some bs' => rw [e2] at e; cases e; rw [AtL.ints h2 e2]; rfl
      | _ => cases e
def sumD : List PyData → Option PyData
  | [.list ds] => (intsOf ds).map fun bs => .int bs.sum
  | [.tuple ds] => (intsOf ds).map fun bs => .int bs.sum
  | _ => none
theorem call_sumP (hc : X.calm = true) : CallD X (.builtin "sum") sumD := by
  intro pins sh σ H xs us Q I rv h
  obtain ⟨O, ds, z, a, e, k, _, _⟩ := h
  unfold sumD at e
  split at e
  · obtain ⟨v, rfl, av⟩ := a.one
    obtain ⟨b, ys, rfl, h1, h2⟩ := av.lst
    cases eb : intsOf _ with
    | none => rw [eb] at e; cases e
    | some bs =>
      rw [eb] at e
      cases e
      cases h2.ints eb
      exact cr_sum hc pins sh σ H _ us Q I rv ⟨b, bs, rfl, SqL.of h1, k _ (.int _)⟩
  · obtain ⟨v, rfl, av⟩ := a.one
    obtain ⟨b, ys, rfl, h1, h2⟩ := av.tup
    cases eb : intsOf _ with
    | none => rw [eb] at e; cases e
    | some bs =>
      rw [eb] at e
      cases e
      cases h2.ints eb
      obtain ⟨u, rfl, ru⟩ := rv.one
      cases ru
      obtain ⟨its, r, hl, hz⟩ := I.tuple h1.sq
      have hi := r.ints
      have nn : numsOf its.toArray.toList = bs := hi.numsOf
      obtain ⟨xs, hx⟩ := hi.allInts.items
      rw [hx] at hl nn
      rw [nums_intItems] at nn
      refine PySem.W.ktm_sumG (I.ok.hd hc) hl fun h' tk t' hk => ?_
      rw [preSum_eq, List.take_of_length_le (by simp), nn]
      exact ⟨.int _, H, I.kept hk, ⟨_, rfl⟩, k _ (.int _)⟩
  · cases e
/-! ### abs, int, bool -/
def absD : List PyData → Option PyData
  | [.int i] => some (.int (if i < 0 then -i else i))
  | _ => none
theorem call_absP : CallD X (.builtin "abs") absD := by
  intro pins sh σ H xs us Q I rv h
  obtain ⟨O, ds, z, a, e, k, _, _⟩ := h
  unfold absD at e
  split at e
  · cases e
    obtain ⟨v, rfl, av⟩ := a.one
    cases av.int
    exact call_abs pins sh σ H _ us Q I rv ⟨_, rfl, k _ (.int _)⟩
  · cases e
def intD : List PyData → Option PyData
  | [.int i] => some (.int i)
  | [.bool b] => some (.int (if b then 1 else 0))
  | _ => none
theorem call_intP : CallD X (.type "int") intD := by
  intro pins sh σ H xs us Q I rv h
  obtain ⟨O, ds, z, a, e, k, _, _⟩ := h
  unfold intD at e
  split at e
  · cases e
    obtain ⟨v, rfl, av⟩ := a.one
    cases av.int
    exact call_int1 pins sh σ H _ us Q I rv (.inl ⟨_, rfl, k _ (.int _)⟩)
  · cases e
    obtain ⟨v, rfl, av⟩ := a.one
    cases av.bl
    exact call_int1 pins sh σ H _ us Q I rv (.inr ⟨_, rfl, k _ (.int _)⟩)
  · cases e
/-! ### list(x), tuple(x) -/
def listD : List PyData → Option (List PyData)
  | [.list ds] => some ds
  | [.tuple ds] => some ds
  | _ => none
theorem call_listP : CallF X (.type "list") listD := by
  intro pins sh σ H xs us Q I rv h
  obtain ⟨O, ds, z, a, e, k⟩ := h
  unfold listD at e
  split at e
  · cases e
    obtain ⟨v, rfl, av⟩ := a.one
    obtain ⟨b, ys, rfl, h1, h2⟩ := av.lst
    exact call_list_of pins sh σ H _ us Q I rv ⟨b, ys, rfl, .inl (SqL.of h1), fun l hl => k l ys hl h2⟩
  · cases e
    obtain ⟨v, rfl, av⟩ := a.one
    obtain ⟨b, ys, rfl, h1, h2⟩ := av.tup
    exact call_list_of pins sh σ H _ us Q I rv ⟨b, ys, rfl, .inr h1.sq, fun l hl => k l ys hl h2⟩
  · cases e
def tupleD : List PyData → Option PyData
  | [.list ds] => some (.tuple ds)
  | [.tuple ds] => some (.tuple ds)
  | _ => none
theorem call_tupleP : CallD X (.type "tuple") tupleD := by
  intro pins sh σ H xs us Q I rv h
  obtain ⟨O, ds, z, a, e, k, _, kt⟩ := h
  unfold tupleD at e
  split at e
  · cases e
    obtain ⟨v, rfl, av⟩ := a.one
    obtain ⟨b, ys, rfl, h1, h2⟩ := av.lst
    exact call_tupleF pins sh σ H _ us Q I rv ⟨b, ys, rfl, .inl ⟨SqL.of h1, kt ys _ rfl h2⟩⟩
  · cases e
    obtain ⟨v, rfl, av⟩ := a.one
    obtain ⟨b, ys, rfl, h1, h2⟩ := av.tup
    exact call_tupleF pins sh σ H _ us Q I rv ⟨b, ys, rfl, .inr ⟨h1.sq, k _ (.tup h1 h2)⟩⟩
  · cases e

/-! ### min, max of alike items -/
def okMin : List PyData → Bool
  | [] => false
  | ds => PyData.plainAll ds && ds.all (fun x => ds.all fun y => PySem.W.alike x y) && ds.all (fun x => !(isNone x)) && decide (PyData.depthAll ds ≤ 60)
theorem okMin_of {x : PyData} {xs : List PyData} (h : okMin (x :: xs) = true) : PyData.plainAll (x :: xs) = true ∧ PySem.W.AlikeAll (x :: xs) ∧ PyData.depthAll (x :: xs) ≤ 60 := by
  unfold okMin at h
  simp only [Bool.and_eq_true, decide_eq_true_eq] at h
  obtain ⟨⟨⟨h1, h2⟩, h3⟩, h4⟩ := h
  refine ⟨h1, ⟨fun a ha b hb => ?_, fun a ha e => ?_⟩, h4⟩
  · exact List.all_eq_true.mp (List.all_eq_true.mp h2 a ha) b hb
  · have := List.all_eq_true.mp h3 a ha
    rw [e] at this
    exact Bool.false_ne_true this
def minOfD : List PyData → Option PyData
  | [.list (x :: xs)] => if okMin (x :: xs) then some (PySem.W.minD x xs) else none
  | [.tuple (x :: xs)] => if okMin (x :: xs) then some (PySem.W.minD x xs) else none
  | _ => none
def maxOfD : List PyData → Option PyData
  | [.list (x :: xs)] => if okMin (x :: xs) then some (PySem.W.maxD x xs) else none
  | [.tuple (x :: xs)] => if okMin (x :: xs) then some (PySem.W.maxD x xs) else none
  | _ => none
theorem plain_mem : ∀ {ds : List PyData} {d : PyData}, PyData.plainAll ds = true → d ∈ ds → d.plain = true
  | [], _, _, h => by cases h
  | x :: xs, d, h, hd => by
    have h' : x.plain = true ∧ PyData.plainAll xs = true := by simpa [PyData.plainAll] using h
    rcases List.mem_cons.mp hd with rfl | hd
    · exact h'.1
    · exact plain_mem h'.2 hd
/-- the item that a place of the values holds -/
theorem best_at {pins : List (Addr × Obj)} {sh : Shared} {ys : List V} {its : List Value} {ds : List PyData} {i : Nat} {w : Value} {z : PyData} {bs : List Addr} {h' : Heap} (I : Inv X pins σ H sh) (rv : Vals ys its) (h2 : AtL X.K O H ys ds) (pl : PyData.plainAll ds = true)
    (hi : its.toArray[i]? = some w) (r : Reads h' w z bs) (k : ∀ b o, sh.heap.get? b = some o → h'.get? b = some o) : ∃ y, RelV y w ∧ At X.K O H y z := by
  have hi : its[i]? = some w := by simpa using hi
  cases ey : ys[i]? with
  | none => rw [rv.none_of ey] at hi; cases hi
  | some y =>
    obtain ⟨w', e1, e2⟩ := rv.get ey
    rw [hi] at e1; cases e1
    obtain ⟨d, ed, ad⟩ := h2.get ey
    have hp := plain_mem pl (List.mem_of_getElem? ed)
    obtain ⟨as, rd'⟩ := At.rds I ad hp e2
    have := SeqAt.plain_unique d z w _ _ hp (PyProof.Rows.Reads.keeps k rd') r
    subst this
    exact ⟨y, e2, ad⟩
theorem call_minP (hc : X.calm = true) (hu : X.A.units + 64 < cLine) : CallD X (.builtin "min") minOfD := by
  intro pins sh σ H xs us Q I rv h
  obtain ⟨O, ds, z, a, e, k, _, _⟩ := h
  have go : ∀ {h' : Heap} {tk : Nat} {y : V} {w : Value}, (∀ b o, sh.heap.get? b = some o → h'.get? b = some o) → RelV y w → At X.K O H y z → EP X pins σ Q w { sh with heap := h', toks := tk } := fun {h' tk y w} hk r1 r2 => ⟨y, H, I.kept hk, r1, k y r2⟩
  unfold minOfD at e
  split at e
  · split at e
    · rename_i ok
      cases e
      obtain ⟨p1, p2, p3⟩ := okMin_of ok
      obtain ⟨v, rfl, av⟩ := a.one
      obtain ⟨b, ys, rfl, h1, h2⟩ := av.lst
      obtain ⟨u, rfl, ru⟩ := rv.one
      cases ru
      obtain ⟨its, r, hl, hz⟩ := I.list (SqL.of h1)
      obtain ⟨as, rs⟩ := AtL.reads I _ _ _ p1 h2 r
      refine PySem.W.min_list_data (I.ok.hd hc) hl.isList (by simpa using rs) p2 (min61 hu p3) fun i w h' tk bs hi r' hk => ?_
      obtain ⟨y, r1, r2⟩ := best_at I r h2 p1 hi r' hk
      exact go hk r1 r2
    · cases e
  · split at e
    · rename_i ok
      cases e
      obtain ⟨p1, p2, p3⟩ := okMin_of ok
      obtain ⟨v, rfl, av⟩ := a.one
      obtain ⟨b, ys, rfl, h1, h2⟩ := av.tup
      obtain ⟨u, rfl, ru⟩ := rv.one
      cases ru
      obtain ⟨its, r, hl, hz⟩ := I.tuple h1.sq
      obtain ⟨as, rs⟩ := AtL.reads I _ _ _ p1 h2 r
      refine PySem.W.min_tuple_data (I.ok.hd hc) hl (by simpa using rs) p2 (min61 hu p3) fun i w h' tk bs hi r' hk => ?_
      obtain ⟨y, r1, r2⟩ := best_at I r h2 p1 hi r' hk
      exact go hk r1 r2
    · cases e
  · cases e
theorem call_maxP (hc : X.calm = true) (hu : X.A.units + 64 < cLine) : CallD X (.builtin "max") maxOfD := by
  intro pins sh σ H xs us Q I rv h
  obtain ⟨O, ds, z, a, e, k, _, _⟩ := h
  have go : ∀ {h' : Heap} {tk : Nat} {y : V} {w : Value}, (∀ b o, sh.heap.get? b = some o → h'.get? b = some o) → RelV y w → At X.K O H y z → EP X pins σ Q w { sh with heap := h', toks := tk } := fun {h' tk y w} hk r1 r2 => ⟨y, H, I.kept hk, r1, k y r2⟩
  unfold maxOfD at e
  split at e
  · split at e
    · rename_i ok
      cases e
      obtain ⟨p1, p2, p3⟩ := okMin_of ok
      obtain ⟨v, rfl, av⟩ := a.one
      obtain ⟨b, ys, rfl, h1, h2⟩ := av.lst
      obtain ⟨u, rfl, ru⟩ := rv.one
      cases ru
      obtain ⟨its, r, hl, hz⟩ := I.list (SqL.of h1)
      obtain ⟨as, rs⟩ := AtL.reads I _ _ _ p1 h2 r
      refine PySem.W.max_list_data (I.ok.hd hc) hl.isList (by simpa using rs) p2 (min61 hu p3) fun i w h' tk bs hi r' hk => ?_
      obtain ⟨y, r1, r2⟩ := best_at I r h2 p1 hi r' hk
      exact go hk r1 r2
    · cases e
  · split at e
    · rename_i ok
      cases e
      obtain ⟨p1, p2, p3⟩ := okMin_of ok
      obtain ⟨v, rfl, av⟩ := a.one
      obtain ⟨b, ys, rfl, h1, h2⟩ := av.tup
      obtain ⟨u, rfl, ru⟩ := rv.one
      cases ru
      obtain ⟨its, r, hl, hz⟩ := I.tuple h1.sq
      obtain ⟨as, rs⟩ := AtL.reads I _ _ _ p1 h2 r
      refine PySem.W.max_tuple_data (I.ok.hd hc) hl (by simpa using rs) p2 (min61 hu p3) fun i w h' tk bs hi r' hk => ?_
      obtain ⟨y, r1, r2⟩ := best_at I r h2 p1 hi r' hk
      exact go hk r1 r2
    · cases e
  · cases e

/-! ### sorted -/
def nonTup : PyData → Bool
  | .none => false
  | .tuple _ => false
  | _ => true
def someTup : PyData → Bool
  | .tuple (_ :: _) => true
  | _ => false
def okSort (ds : List PyData) : Bool := PyData.plainAll ds && ds.all (fun x => ds.all fun y => PySem.W.alike x y) && (ds.all someTup || ds.all nonTup) && ds.all (fun d => decide (d.depth ≤ 60))
def sortD (ds : List PyData) : List PyData := ds.mergeSort (PySem.W.dataLe false id)
def sortedD : List PyData → Option (List PyData)
  | [.list ds] => if okSort ds then some (sortD ds) else none
  | [.tuple ds] => if okSort ds then some (sortD ds) else none
  | _ => none
theorem okSort_of {ds : List PyData} (h : okSort ds = true) : PyData.plainAll ds = true ∧ PySem.W.AllAlike ds ∧ PySem.W.Sortable ds ∧ ∀ d ∈ ds, d.depth ≤ 60 := by
  unfold okSort at h
  simp only [Bool.and_eq_true, Bool.or_eq_true] at h
  obtain ⟨⟨⟨h1, h2⟩, h3⟩, h4⟩ := h
  refine ⟨h1, fun a ha b hb => List.all_eq_true.mp (List.all_eq_true.mp h2 a ha) b hb, h3.imp (fun h d hd => ?_) (fun h d hd => ?_), fun d hd => of_decide_eq_true (List.all_eq_true.mp h4 d hd)⟩
  · have := List.all_eq_true.mp h d hd
    unfold someTup at this
    split at this
    · exact ⟨_, _, rfl⟩
    · cases this
  · have := List.all_eq_true.mp h d hd
    refine ⟨fun e => ?_, fun xs e => ?_⟩ <;> (rw [e] at this; exact Bool.false_ne_true this)
theorem vals_zip : ∀ {ys : List V} {its : List Value} {ds : List PyData}, Vals ys its → ys.length = ds.length → PySem.W.EachIs (fun u (b : V × PyData) => RelV b.1 u) its (ys.zip ds)
  | _, _, [], .nil, _ => .nil
  | _, _, d :: ds, .cons r t, e => .cons r (vals_zip t (by simpa using e))
  | _, _, d :: ds, .nil, e => by cases e
  | _, _, [], .cons _ _, e => by cases e
theorem each_vals : ∀ {its : List Value} {bs : List (V × PyData)}, PySem.W.EachIs (fun u (b : V × PyData) => RelV b.1 u) its bs → Vals (bs.map (·.1)) its
  | _, _, .nil => .nil
  | _, _, .cons r t => .cons r (each_vals t)
theorem each_and {α β : Type} {R S : α → β → Prop} : ∀ {as : List α} {bs : List β}, PySem.W.EachIs R as bs → (∀ a b, b ∈ bs → R a b → S a b) → PySem.W.EachIs S as bs
  | _, _, .nil, _ => .nil
  | _, _, .cons r t, h => .cons (h _ _ List.mem_cons_self r) (each_and t fun a b hb => h a b (List.mem_cons_of_mem _ hb))
theorem AtL.zipped : ∀ {ys : List V} {ds : List PyData}, AtL K O H ys ds → ∀ b ∈ ys.zip ds, At K O H b.1 b.2
  | _, _, .nil, _, h => by cases h
  | _, _, .cons h1 h2, b, h => by
    rcases List.mem_cons.mp h with rfl | h
    · exact h1
    · exact AtL.zipped h2 b h
theorem AtL.of_map : ∀ {bs : List (V × PyData)}, (∀ b ∈ bs, At K O H b.1 b.2) → AtL K O H (bs.map (·.1)) (bs.map (·.2))
  | [], _ => .nil
  | b :: bs, h => .cons (h b List.mem_cons_self) (AtL.of_map fun c hc => h c (List.mem_cons_of_mem _ hc))
theorem zip_snd {α β : Type} : ∀ {as : List α} {bs : List β}, as.length = bs.length → (as.zip bs).map (·.2) = bs
  | [], [], _ => rfl
  | a :: as, b :: bs, h => by rw [List.zip_cons_cons, List.map_cons, zip_snd (by simpa using h)]
theorem call_sortedP (hu : X.A.units + 64 < cLine) : CallF X (.builtin "sorted") sortedD := by
  intro pins sh σ H xs us Q I rv h
  obtain ⟨O, ds, z, a, e, k⟩ := h
  unfold sortedD at e
  split at e
  · split at e
    · rename_i ds ok
      cases e
      obtain ⟨p1, p2, p3, p4⟩ := okSort_of ok
      obtain ⟨v, rfl, av⟩ := a.one
      obtain ⟨b, ys, rfl, h1, h2⟩ := av.lst
      obtain ⟨u, rfl, ru⟩ := rv.one
      cases ru
      obtain ⟨its, r, hl, hz⟩ := I.list (SqL.of h1)
      have hlen : ys.length = ds.length := h2.len
      have e1 := vals_zip r hlen
      have hmap : (ys.zip ds).map (·.2) = ds := zip_snd hlen
      refine PySem.W.sorted_data (enc := fun b : V × PyData => b.2) (bs := ys.zip ds) hl.isList e1 (each_and e1 fun u b hb rb => ?_) (by rw [hmap]; exact p2) (by rw [hmap]; exact p3) (by rw [List.length_zip]; omega) (fun b hb => ?_) fun out hol eo => ?_
      · exact At.rds I (h2.zipped b hb) (plain_mem p1 (List.of_mem_zip hb).2) rb
      · have := p4 b.2 (List.of_mem_zip hb).2
        show X.A.units + 2 + b.2.depth < cLine
        omega
      · obtain ⟨ep, he'⟩ := PyProof.Rows.sortedAll_at sh.heap its out.toArray
        have hperm : ((ys.zip ds).mergeSort (PySem.W.dataLe false fun b : V × PyData => b.2)).Perm (ys.zip ds) := List.mergeSort_perm _ _
        have hA : AtL X.K O H (((ys.zip ds).mergeSort (PySem.W.dataLe false fun b : V × PyData => b.2)).map (·.1)) (sortD ds) := by
          have q := AtL.of_map (K := X.K) (O := O) (H := H) (bs := (ys.zip ds).mergeSort (PySem.W.dataLe false fun b : V × PyData => b.2)) fun b hb => h2.zipped b (hperm.mem_iff.mp hb)
          have q2 : ((ys.zip ds).mergeSort (PySem.W.dataLe false fun b : V × PyData => b.2)).map (·.2) = sortD ds := by
            have q3 := PySem.W.sort_maps (r := PySem.W.dataLe false fun b : V × PyData => b.2) (s := PySem.W.dataLe false (id : PyData → PyData)) (fun b : V × PyData => b.2) (l := ys.zip ds) (fun a _ b _ => rfl)
            rw [hmap] at q3
            exact q3
          rw [q2] at q
          exact q
        have hsz : (((ys.zip ds).mergeSort (PySem.W.dataLe false fun b : V × PyData => b.2)).map (·.1)).length ≤ sizeLine := by
          rw [List.length_map, hperm.length_eq, List.length_zip]
          omega
        exact ⟨.ref _, upd H (sh.heap.objs.size + 1) (.lst _), I.laid (t' := sh.toks) (fun _ _ => PyProof.Rows.sortedAll_old) (Nat.le_succ _) ⟨hsz, out, ep, each_vals eo, he'⟩, rfl, k _ _ (I.hok.fresh (Nat.le_succ _)) hA⟩
    · cases e
  · split at e
    · rename_i ds ok
      cases e
      obtain ⟨p1, p2, p3, p4⟩ := okSort_of ok
      obtain ⟨v, rfl, av⟩ := a.one
      obtain ⟨b, ys, rfl, h1, h2⟩ := av.tup
      obtain ⟨u, rfl, ru⟩ := rv.one
      cases ru
      obtain ⟨its, r, hl, hz⟩ := I.tuple h1.sq
      have hlen : ys.length = ds.length := h2.len
      have e1 := vals_zip r hlen
      have hmap : (ys.zip ds).map (·.2) = ds := zip_snd hlen
      refine sorted_tuple (enc := fun b : V × PyData => b.2) (bs := ys.zip ds) hl e1 (each_and e1 fun u b hb rb => ?_) (by rw [hmap]; exact p2) (by rw [hmap]; exact p3) (by rw [List.length_zip]; omega) (fun b hb => ?_) fun out hol eo => ?_
      · exact At.rds I (h2.zipped b hb) (plain_mem p1 (List.of_mem_zip hb).2) rb
      · have := p4 b.2 (List.of_mem_zip hb).2
        show X.A.units + 2 + b.2.depth < cLine
        omega
      · obtain ⟨ep, he'⟩ := PyProof.Rows.sortedAll_at sh.heap its out.toArray
        have hperm : ((ys.zip ds).mergeSort (PySem.W.dataLe false fun b : V × PyData => b.2)).Perm (ys.zip ds) := List.mergeSort_perm _ _
        have hA : AtL X.K O H (((ys.zip ds).mergeSort (PySem.W.dataLe false fun b : V × PyData => b.2)).map (·.1)) (sortD ds) := by
          have q := AtL.of_map (K := X.K) (O := O) (H := H) (bs := (ys.zip ds).mergeSort (PySem.W.dataLe false fun b : V × PyData => b.2)) fun b hb => h2.zipped b (hperm.mem_iff.mp hb)
          have q2 : ((ys.zip ds).mergeSort (PySem.W.dataLe false fun b : V × PyData => b.2)).map (·.2) = sortD ds := by
            have q3 := PySem.W.sort_maps (r := PySem.W.dataLe false fun b : V × PyData => b.2) (s := PySem.W.dataLe false (id : PyData → PyData)) (fun b : V × PyData => b.2) (l := ys.zip ds) (fun a _ b _ => rfl)
            rw [hmap] at q3
            exact q3
          rw [q2] at q
          exact q
        have hsz : (((ys.zip ds).mergeSort (PySem.W.dataLe false fun b : V × PyData => b.2)).map (·.1)).length ≤ sizeLine := by
          rw [List.length_map, hperm.length_eq, List.length_zip]
          omega
        exact ⟨.ref _, upd H (sh.heap.objs.size + 1) (.lst _), I.laid (t' := sh.toks) (fun _ _ => PyProof.Rows.sortedAll_old) (Nat.le_succ _) ⟨hsz, out, ep, each_vals eo, he'⟩, rfl, k _ _ (I.hok.fresh (Nat.le_succ _)) hA⟩
    · cases e
  · cases e
end
end PD
end
section
set_option Elab.async false
set_option linter.all false
set_option maxRecDepth 100000
set_option maxHeartbeats 4000000
/-! PD9: calls of the text's own defs; methods that change what a name alone holds; the hand. -/
namespace PD
variable [TB]
open PySem PySem.Spec PyProof.Rows L2

/-- an argument: data, or the hand -/
inductive AV where
  | d (x : PyData) | hand
/-- what a def is worth: arguments, the hand's content, the wish of the value and the hand, the wish of an error's class and the hand -/
abbrev FSpec := List AV → List PyData → (PyData → List PyData → Prop) → (Addr → List PyData → Prop) → Prop
inductive AvL (K : PySem.W.Frag) (O : Ow) (ha : Option Addr) (H : Hp) : List V → List AV → Prop
  | nil : AvL K O ha H [] []
  | d {v : V} {vs : List V} {x : PyData} {rs : List AV} : At K O H v x → AvL K O ha H vs rs → AvL K O ha H (v :: vs) (.d x :: rs)
  | hand {a : Addr} {vs : List V} {rs : List AV} : ha = some a → AvL K O ha H vs rs → AvL K O ha H (.ref a :: vs) (.hand :: rs)
structure HandOk (K : PySem.W.Frag) (O : Ow) (ha : Option Addr) (H : Hp) (hd : List PyData) : Prop where
  hand : ∀ a, ha = some a → O a ∧ ∃ xs, H a = some (.lst xs) ∧ AtL K O H xs hd
  tbo : TbOk O H
def Fram (ha : Option Addr) (H H' : Hp) : Prop := ∀ a o, H a = some o → ¬ (ha = some a ∨ Tb a) → H' a = some o
/-- a def's promise; fr: its value is new and held by nothing -/
def spD (K : PySem.W.Frag) (fr : Bool) (F : FSpec) : Sp := fun vs H Q E => ∃ (O : Ow) (ha : Option Addr) (avs : List AV) (hd : List PyData), HandOk K O ha H hd ∧ (∀ a, O a → NT (H a)) ∧ AvL K O ha H vs avs ∧
  F avs hd (fun d hd' => ∀ v H', Fram ha H H' → HandOk K O ha H' hd' → (if fr = true then ∃ a, v = .ref a ∧ H a = none ∧ Own K (O.with a) H' a d ∧ HandOk K (O.with a) ha H' hd' else At K O H' v d) → Q v H')
    (fun C hd' => ∀ H', Fram ha H H' → HandOk K O ha H' hd' → E (.ref C) none H')

section
variable {K : PySem.W.Frag} {X : Cx} {p : Pm} {O O' : Ow} {σ : L2.St} {H H' : Hp} {s : PSt} {v : V} {d : PyData} {a : Addr} {e ea eb : Expr} {es : List Expr} {pos : Pos}
theorem AvL.to {ha : Option Addr} (k : Kp O H O' H') : ∀ {vs : List V} {rs : List AV}, AvL K O ha H vs rs → AvL K O' ha H' vs rs
  | _, _, .nil => .nil
  | _, _, .d h t => .d (h.to k) (AvL.to k t)
  | _, _, .hand h t => .hand h (AvL.to k t)
/-- behind a call: what was not the hand stands, the hand may have another content -/
theorem Fram.kp {hd : List PyData} (R : Rl K p O σ H s) (f : Fram p.ha H H') : Kp O H O H' := ⟨fun a o e n => f a o e fun z => n (z.elim (fun z => (R.hand a z).1) fun z => R.tbo.ow z), fun _ n _ => n⟩
theorem Rl.called {hd' : List PyData} (R : Rl K p O σ H s) (f : Fram p.ha H H') (h : HandOk K O p.ha H' hd') : Rl K p O σ H' { s with hd := hd' } := by
  have k : Kp O H O H' := f.kp (hd := hd') R
  have stay : ∀ {b o}, H b = some o → ¬ p.ex b → H' b = H b := fun {b o} e n => by rw [e]; exact f b o e n
  refine ⟨R.len, fun i S e => ?_, R.inj, h.hand, fun a o e n => f a o (R.frm a o e n) n, fun a z => ?_, R.o0, R.od, R.ob, h.tbo⟩
  · have q := R.sl i S e
    cases S with
    | no => trivial
    | v d => obtain ⟨y, e1, e2⟩ := q; exact ⟨y, e1, e2.to k⟩
    | m d =>
      obtain ⟨b, e1, e2, e3, e4, e5⟩ := q
      refine ⟨b, e1, e2, e3, e4, e5.to k ?_⟩
      cases e6 : H b with
      | none => exact absurd e6 e5.some
      | some o => rw [f b o e6 e4]
    | b d =>
      obtain ⟨b, e1, e2, e3, e4⟩ := q
      refine ⟨b, e1, e2, e3, e4.to k ?_⟩
      cases e6 : H b with
      | none => exact absurd e6 e4.some
      | some o => rw [f b o e6 e3]
    | h => exact q
  · by_cases e : p.ex a
    · rcases e with e | e
      · obtain ⟨_, xs, e2, _⟩ := h.hand a e
        rw [e2]; exact True.intro
      · obtain ⟨ps, e2⟩ := h.tbo.at e
        rw [e2]; exact True.intro
    · have n := R.dom a z
      cases e6 : H a with
      | none => exact absurd e6 n.ne
      | some o => rw [f a o e6 e, ← e6]; exact n
/-- Kp to a heap where one new address is owned -/
theorem Kp.withNew {b : Addr} (k : Kp O H O H') (hb : H b = none) : Kp O H (O.with b) H' := ⟨k.st, fun a n h z => by
  rcases z with z | z
  · exact n z
  · rw [z] at h; exact h hb⟩
theorem Rl.calledF {hd' : List PyData} {b : Addr} {d : PyData} (R : Rl K p O σ H s) (f : Fram p.ha H H') (hb : H b = none) (ow : Own K (O.with b) H' b d) (h : HandOk K (O.with b) p.ha H' hd') :
    Rl K p (O.with b) σ H' { s with hd := hd' } ∧ Kp O H (O.with b) H' ∧ Lone K p (O.with b) σ H' { s with hd := hd' } b d := by
  have k0 : Kp O H O H' := f.kp (hd := hd') R
  have k : Kp O H (O.with b) H' := k0.withNew hb
  obtain ⟨n1, n2, n3⟩ := R.fresh hb
  refine ⟨⟨R.len, fun i S e => ?_, R.inj, h.hand, fun a o e n => f a o (R.frm a o e n) n, fun a z => ?_, fun a z => .inl (R.o0 a z), R.od, fun a z n => ?_, h.tbo⟩, k, .inr rfl, n1, n2, ow, n3⟩
  · have q := R.sl i S e
    cases S with
    | no => trivial
    | v d => obtain ⟨y, e1, e2⟩ := q; exact ⟨y, e1, e2.to k⟩
    | m d =>
      obtain ⟨c, e1, e2, e3, e4, e5⟩ := q
      refine ⟨c, e1, .inl e2, e3, e4, e5.to k ?_⟩
      cases e6 : H c with
      | none => exact absurd e6 e5.some
      | some o => rw [f c o e6 e4]
    | b d =>
      obtain ⟨c, e1, e2, e3, e4⟩ := q
      refine ⟨c, e1, e2, e3, e4.to k ?_⟩
      cases e6 : H c with
      | none => exact absurd e6 e4.some
      | some o => rw [f c o e6 e3]
    | h => exact q
  · rcases z with z | z
    · by_cases e : p.ex a
      · rcases e with e | e
        · obtain ⟨_, xs, e2, _⟩ := h.hand a e
          rw [e2]; exact True.intro
        · obtain ⟨ps, e2⟩ := h.tbo.at e
          rw [e2]; exact True.intro
      · have n := R.dom a z
        cases e6 : H a with
        | none => exact absurd e6 n.ne
        | some o => rw [f a o e6 e, ← e6]; exact n
    · rw [z]; exact ow.nt
  · rcases z with z | z
    · exact R.ob a z n
    · rw [z] at n; exact absurd n1 n

/-! ### arguments -/
abbrev PTV := PSt → (List AV → PSt → Prop) → Prop
def liftV (K : PySem.W.Frag) (t : PTV) : TA := fun σ H QV => ∃ p O s, Rl K p O σ H s ∧ t s fun avs s' => ∀ vs O' H', Rl K p O' σ H' s' → Kp O H O' H' → AvL K O' p.ha H' vs avs → QV vs H'
structure DV (X : Cx) (es : List Expr) (t : PTV) : Prop where
  pa : PA X es (liftV X.K t)
  mono : ∀ s Q Q', (∀ d s', Q d s' → Q' d s') → t s Q → t s Q'
@[simp] def tNlV : PTV := fun s Q => Q [] s
@[simp] def tCnV (t : PTE) (u : PTV) : PTV := fun s Q => t s fun d s1 => u s1 fun ds s2 => Q (.d d :: ds) s2
@[simp] def tCnH (i : Nat) (u : PTV) : PTV := fun s Q => s.G[i]? = some .h ∧ u s fun ds s2 => Q (.hand :: ds) s2
theorem dv_nil : DV X [] tNlV := ⟨PA.weak pa_nil fun σ H Q ⟨p, O, s, R, q⟩ => q [] O H R .refl .nil, fun s Q Q' w q => w _ _ q⟩
theorem dv_cons {t : PTE} {u : PTV} (h : DE X e t) (k : DV X es u) (hs : starEach (e :: es) X.env = (false, eval e X.env) :: starEach es X.env := by rfl) : DV X (e :: es) (tCnV t u) :=
  ⟨PA.weak (pa_cons h.pe k.pa hs) fun σ H Q ⟨p, O, s, R, q⟩ => ⟨p, O, s, R, h.mono _ _ _ (fun d s1 q1 v1 O1 H1 R1 k1 a1 => ⟨p, O1, s1, R1, k.mono _ _ _ (fun ds s2 q2 vs O2 H2 R2 k2 a2 => q2 (v1 :: vs) O2 H2 R2 (k1.trans k2) (.d (a1.to k2) a2)) q1⟩) q⟩,
    fun s Q Q' w q => h.mono _ _ _ (fun d s1 q1 => k.mono _ _ _ (fun ds s2 => w (.d d :: ds) s2) q1) q⟩
theorem dv_hand {i : Nat} {u : PTV} (h : PE X e (tVar i)) (k : DV X es u) (hs : starEach (e :: es) X.env = (false, eval e X.env) :: starEach es X.env := by rfl) : DV X (e :: es) (tCnH i u) :=
  ⟨PA.weak (pa_cons h k.pa hs) fun σ H Q ⟨p, O, s, R, g, q⟩ => by
    obtain ⟨a, e1, e2⟩ := R.sl i _ g
    exact ⟨.ref a, e2, p, O, s, R, k.mono _ _ _ (fun ds s2 q2 vs O2 H2 R2 k2 a2 => q2 (.ref a :: vs) O2 H2 R2 k2 (.hand e1 a2)) q⟩,
    fun s Q Q' w q => ⟨q.1, k.mono _ _ _ (fun ds s2 => w (.hand :: ds) s2) q.2⟩⟩

/-! ### f(..) -/
@[simp] def tFn (F : FSpec) (t : PTV) : PTE := fun s Q => t s fun avs s' => F avs s'.hd (fun d hd => Q d { s' with hd := hd }) fun _ _ => False
/-- a spec in which a weaker wish is as good -/
def MonoF (F : FSpec) : Prop := ∀ avs hd Q Q' E E', (∀ d h, Q d h → Q' d h) → (∀ c h, E c h → E' c h) → F avs hd Q E → F avs hd Q' E'
theorem mono_fn {F : FSpec} {t : PTV} (hF : MonoF F) (h : DV X es t) : Mono (tFn F t) := fun s Q Q' w q => h.mono _ _ _ (fun avs s' q => hF _ _ _ _ _ _ (fun d hd => w d _) (fun _ _ z => z) q) q
section
variable {CX : CXT} {k : Nat} {f : Addr} {fd : FuncData} {ps : List Str} {F : FSpec} {x : Str} {p' : Pos} {t : PTV}
theorem fn_read {fr : Bool} {avs : List AV} {vs : List V} {QV : VK} (R : Rl K p O σ H s) (a : AvL K O p.ha H vs avs) (q : F avs s.hd (fun d hd => ∀ v H', Fram p.ha H H' → HandOk K O p.ha H' hd → (if fr = true then ∃ a, v = .ref a ∧ H a = none ∧ Own K (O.with a) H' a d ∧ HandOk K (O.with a) p.ha H' hd else At K O H' v d) → QV v H') fun _ _ => False) (hF : MonoF F) :
    spD K fr F vs H QV E0 := ⟨O, p.ha, avs, s.hd, ⟨fun a e => R.hand a e, R.tbo⟩, R.dom, a, hF _ _ _ _ _ _ (fun d hd w => w) (fun _ _ z => z.elim) q⟩
theorem de_call (G : FnG X.prog X.w X.K X.mg X.base CX k f fd ps (spD X.K false F)) (hF : MonoF F) (hr : RoomG k X.A) (hg : Gl X x) (hm : X.mg x = some (.ref f)) (hk : PySem.W.keepIn X.K (.ref f) = true) (hb : Binds X.K fd ps []) (hx : Passes CX X E0)
    (ha : DV X (e :: es) t) (hdb : (x == ("__debug__" : Str)) = false := by decide) (he : starEach (e :: es) X.env = (false, eval e X.env) :: starEach es X.env := by rfl) (hpl : (backTo pos (starEach es X.env)).any (·.1) = false := by rfl) :
    DE X (.Call (.Name x p') (e :: es) [] pos) (tFn F t) := by
  refine ⟨PE.weak (pe_callG G hr hg hm hk hb .nil hx ha.pa hdb he hpl) fun σ H Q ⟨p, O, s, R, q⟩ => ⟨p, O, s, R, ha.mono _ _ _ (fun avs s' q vs O' H' R' k' a => ?_) q⟩, mono_fn hF ha⟩
  show spD X.K _ F (vs ++ []) H' Q E0
  rw [List.append_nil]
  refine fn_read (fr := false) R' a (hF _ _ _ _ _ _ (fun d hd q v H2 f h a2 => ?_) (fun _ _ z => z) q) hF
  exact q v O' H2 (R'.called f h) (k'.trans (f.kp (hd := hd) R')) a2
theorem df_call (G : FnG X.prog X.w X.K X.mg X.base CX k f fd ps (spD X.K true F)) (hF : MonoF F) (hr : RoomG k X.A) (hg : Gl X x) (hm : X.mg x = some (.ref f)) (hk : PySem.W.keepIn X.K (.ref f) = true) (hb : Binds X.K fd ps []) (hx : Passes CX X E0)
    (ha : DV X (e :: es) t) (hdb : (x == ("__debug__" : Str)) = false := by decide) (he : starEach (e :: es) X.env = (false, eval e X.env) :: starEach es X.env := by rfl) (hpl : (backTo pos (starEach es X.env)).any (·.1) = false := by rfl) :
    DF X (.Call (.Name x p') (e :: es) [] pos) (tFn F t) := by
  refine ⟨PE.weak (pe_callG G hr hg hm hk hb .nil hx ha.pa hdb he hpl) fun σ H Q ⟨p, O, s, R, q⟩ => ⟨p, O, s, R, ha.mono _ _ _ (fun avs s' q vs O' H' R' k' a => ?_) q⟩, mono_fn hF ha⟩
  show spD X.K _ F (vs ++ []) H' Q E0
  rw [List.append_nil]
  refine fn_read (fr := true) R' a (hF _ _ _ _ _ _ (fun d hd q v H2 f h a2 => ?_) (fun _ _ z => z) q) hF
  obtain ⟨b, rfl, hb, ow, h2⟩ := a2
  obtain ⟨R2, k2, l2⟩ := R'.calledF f hb ow h2
  exact q b _ H2 R2 (k'.trans k2) l2
end

/-! ### what a name alone holds, changed -/
/-- another content at an owned place that slot i holds -/
theorem Rl.put {i : Nat} {b : Addr} {d' : PyData} {o : HO} (R : Rl K p O σ H s) (g : s.G[i]? = some (.m d)) (eb : σ[i]? = some (some (.ref b))) (ow : Own K O (upd H b o) b d') :
    Rl K p O σ (upd H b o) { s with G := s.G.set i (.m d') } ∧ Kp O H O (upd H b o) := by
  obtain ⟨b', e1, e2, e3, e4, e5⟩ := R.sl i _ g
  rw [eb] at e1; cases e1
  have k : Kp O H O (upd H b o) := ⟨fun a u e n => by rw [upd_ne (fun z => n (by rw [z]; exact e2))]; exact e, fun _ n _ => n⟩
  have hi : i < s.G.length := (List.getElem?_eq_some_iff.mp g).1
  have stay : ∀ {c}, c ≠ b → upd H b o c = H c := fun n => upd_ne n
  refine ⟨⟨by rw [List.length_set]; exact R.len, fun j S e => ?_, fun j l d1 d2 c q1 q2 z1 z2 => ?_, fun a e => ?_, fun a u e n => ?_, fun a z => ?_, R.o0, R.od, R.ob, R.tbo.to R.dom k.st (fun a t => stay fun z => e4 (.inr (by rw [← z]; exact t))) fun a t => R.tbo.ow t⟩, k⟩
  · by_cases hj : i = j
    · subst hj
      have e : (s.G.set i (.m d'))[i]? = some S := e
      rw [List.getElem?_set_self hi] at e; cases e
      exact ⟨b, eb, e2, e3, e4, ow⟩
    · have e : (s.G.set i (.m d'))[j]? = some S := e
      rw [List.getElem?_set_ne hj] at e
      have q := R.sl j S e
      cases S with
      | no => trivial
      | v d => obtain ⟨y, e1, e2⟩ := q; exact ⟨y, e1, e2.to k⟩
      | m d0 =>
        obtain ⟨c, f1, f2, f3, f4, f5⟩ := q
        exact ⟨c, f1, f2, f3, f4, f5.to k (stay fun z => hj (R.inj i j d d0 b g e eb (by rw [f1, z])))⟩
      | b d0 =>
        obtain ⟨c, f1, f2, f3, f4⟩ := q
        exact ⟨c, f1, f2, f3, f4.to k (stay fun z => f2 (by rw [z]; exact e3))⟩
      | h => exact q
  · have get : ∀ (j : Nat) (d1 : PyData), (s.G.set i (.m d'))[j]? = some (.m d1) → ∃ d2, s.G[j]? = some (.m d2) := fun j d1 q => by
      by_cases hj : i = j
      · subst hj; exact ⟨d, g⟩
      · rw [List.getElem?_set_ne hj] at q; exact ⟨d1, q⟩
    obtain ⟨x1, y1⟩ := get j d1 q1
    obtain ⟨x2, y2⟩ := get l d2 q2
    exact R.inj j l x1 x2 c y1 y2 z1 z2
  · obtain ⟨f1, xs, f2, f3⟩ := R.hand a e
    exact ⟨f1, xs, by rw [stay fun z => e4 (.inl (by rw [← z]; exact e))]; exact f2, f3.to k⟩
  · have q := R.frm a u e n
    rw [stay fun z => by rw [z, e3] at e; cases e]; exact q
  · by_cases z' : a = b
    · rw [z']; exact ow.nt
    · rw [stay z']; exact R.dom a z
/-- the slot's owned list -/
theorem Rl.mlist {i : Nat} {ds : List PyData} (R : Rl K p O σ H s) (g : s.G[i]? = some (.m (.list ds))) : ∃ b xs, σ[i]? = some (some (.ref b)) ∧ H b = some (.lst xs) ∧ AtL K O H xs ds ∧ O b := by
  obtain ⟨b, e1, e2, _, _, e5⟩ := R.sl i _ g
  cases e5 with
  | lst h1 h2 => exact ⟨b, _, e1, h1, h2, e2⟩
@[simp] def tApp (i : Nat) (t : PTE) : PTE := fun s Q => (∃ ds, s.G[i]? = some (.m (.list ds))) ∧ t s fun d s1 => ∃ ds, s1.G[i]? = some (.m (.list ds)) ∧ ds.length < sizeLine ∧ Q .none { s1 with G := s1.G.set i (.m (.list (ds ++ [d]))) }
variable {o : Expr} {apos cpos : Pos}
theorem de_append {i : Nat} {t : PTE} (h : PE X o (tVar i)) (ha : DE X e t) (hbase : attributeBase o "append" X.env (eval o X.env) = eval o X.env := by rfl) (hfew : ((backTo cpos (starEach [e] X.env)).all (fun x => !x.1) && (backToKw cpos (keywordEach [] X.env)).all (fun x => x.1.isSome) && decide ([e].length + ([] : List Keyword).length + (if ([] : List Keyword).isEmpty then 0 else 1) < 30)) = true := by rfl) (hline : (apos.endLine == cpos.line) = true := by rfl)
    (hs : starEach [e] X.env = (false, eval e X.env) :: starEach [] X.env := by rfl) (hpl : (backTo cpos (starEach [] X.env)).any (·.1) = false := by rfl) : DE X (.Call (.Attribute o "append" apos) [e] [] cpos) (tApp i t) := by
  refine ⟨PE.weak (pe_bm PySem.F.plainAttrs_list PySem.F.slot_list_append PySem.F.type_list_append mt_append h (pa_cons ha.pe pa_nil hs) hbase hfew hline hs hpl) fun σ H Q ⟨p, O, s, R, ⟨ds0, g0⟩, q⟩ => ?_, fun s Q Q' w ⟨g, q⟩ => ⟨g, ha.mono _ _ _ (fun d s1 ⟨ds, g1, z, q⟩ => ⟨ds, g1, z, w _ _ q⟩) q⟩⟩
  obtain ⟨b, xs, e1, e2, e3, e4⟩ := R.mlist g0
  refine ⟨.ref b, e1, .inl ⟨rfl, _, SqL.of e2⟩, p, O, s, R, ha.mono _ _ _ (fun d s1 ⟨ds, g1, z, q⟩ v O' H' R' k' a => ?_) q⟩
  obtain ⟨b', xs', f1, f2, f3, f4⟩ := R'.mlist g1
  rw [e1] at f1; cases f1
  have k2 : Kp O' H' O' (upd H' b (.lst (xs' ++ [v]))) := ⟨fun c u e n => by rw [upd_ne (fun z => n (by rw [z]; exact f4))]; exact e, fun _ n _ => n⟩
  obtain ⟨R2, k3⟩ := R'.put (d' := .list (ds ++ [d])) (o := .lst (xs' ++ [v])) g1 e1 (.lst upd_same ((f3.append (.cons a .nil)).to k2))
  exact ⟨b, xs', v, rfl, rfl, f2, by rw [f3.len]; exact z, q .non O' _ R2 (k'.trans k3) .non⟩
@[simp] def tExt (i : Nat) (t : PTE) : PTE := fun s Q => (∃ ds, s.G[i]? = some (.m (.list ds))) ∧ t s fun d s1 => ∃ ds es, s1.G[i]? = some (.m (.list ds)) ∧ d = .list es ∧ ds.length + es.length ≤ sizeLine ∧ Q .none { s1 with G := s1.G.set i (.m (.list (ds ++ es))) }
theorem de_extend {i : Nat} {t : PTE} (h : PE X o (tVar i)) (ha : DE X e t) (hbase : attributeBase o "extend" X.env (eval o X.env) = eval o X.env := by rfl) (hfew : ((backTo cpos (starEach [e] X.env)).all (fun x => !x.1) && (backToKw cpos (keywordEach [] X.env)).all (fun x => x.1.isSome) && decide ([e].length + ([] : List Keyword).length + (if ([] : List Keyword).isEmpty then 0 else 1) < 30)) = true := by rfl) (hline : (apos.endLine == cpos.line) = true := by rfl)
    (hs : starEach [e] X.env = (false, eval e X.env) :: starEach [] X.env := by rfl) (hpl : (backTo cpos (starEach [] X.env)).any (·.1) = false := by rfl) : DE X (.Call (.Attribute o "extend" apos) [e] [] cpos) (tExt i t) := by
  refine ⟨PE.weak (pe_bm PySem.F.plainAttrs_list PySem.F.slot_list_extend PySem.F.type_list_extend mt_extend h (pa_cons ha.pe pa_nil hs) hbase hfew hline hs hpl) fun σ H Q ⟨p, O, s, R, ⟨ds0, g0⟩, q⟩ => ?_, fun s Q Q' w ⟨g, q⟩ => ⟨g, ha.mono _ _ _ (fun d s1 ⟨ds, es, g1, e, z, q⟩ => ⟨ds, es, g1, e, z, w _ _ q⟩) q⟩⟩
  obtain ⟨b, xs, e1, e2, e3, e4⟩ := R.mlist g0
  refine ⟨.ref b, e1, .inl ⟨rfl, _, SqL.of e2⟩, p, O, s, R, ha.mono _ _ _ (fun d s1 ⟨ds, es, g1, ed, z, q⟩ v O' H' R' k' a => ?_) q⟩
  subst ed
  cases a with
  | lst h1 h2 =>
    rename_i c zs
    obtain ⟨b', xs', f1, f2, f3, f4⟩ := R'.mlist g1
    rw [e1] at f1; cases f1
    have k2 : Kp O' H' O' (upd H' b (.lst (xs' ++ zs))) := ⟨fun c u e n => by rw [upd_ne (fun z => n (by rw [z]; exact f4))]; exact e, fun _ n _ => n⟩
    obtain ⟨R2, k3⟩ := R'.put (d' := .list (ds ++ es)) (o := .lst (xs' ++ zs)) g1 e1 (.lst upd_same ((f3.append h2).to k2))
    exact ⟨b, c, xs', zs, rfl, rfl, f2, h1.2, by rw [f3.len, h2.len]; exact z, q .non O' _ R2 (k'.trans k3) .non⟩
@[simp] def tPop (i : Nat) : PTE := fun s Q => ∃ ds d, s.G[i]? = some (.m (.list ds)) ∧ ds[ds.length - 1]? = some d ∧ Q d { s with G := s.G.set i (.m (.list ds.dropLast)) }
theorem AtL.dropLast {xs : List V} {ds : List PyData} (h : AtL K O H xs ds) : AtL K O H xs.dropLast ds.dropLast := by
  rw [List.dropLast_eq_take, List.dropLast_eq_take, h.len]
  exact h.take _
theorem de_pop {i : Nat} (h : PE X o (tVar i)) (hbase : attributeBase o "pop" X.env (eval o X.env) = eval o X.env := by rfl) (hline : (apos.endLine == cpos.line) = true := by rfl) : DE X (.Call (.Attribute o "pop" apos) [] [] cpos) (tPop i) := by
  refine ⟨PE.weak (pe_bm0 PySem.F.plainAttrs_list PySem.F.slot_list_pop PySem.F.type_list_pop mt_pop h hbase hline) fun σ H Q ⟨p, O, s, R, ds, d, g, ed, q⟩ => ?_, fun s Q Q' w ⟨ds, d, g, ed, q⟩ => ⟨ds, d, g, ed, w _ _ q⟩⟩
  obtain ⟨b, xs, e1, e2, e3, e4⟩ := R.mlist g
  obtain ⟨y, y1, y2⟩ := e3.get' ed
  have k2 : Kp O H O (upd H b (.lst xs.dropLast)) := ⟨fun c u e n => by rw [upd_ne (fun z => n (by rw [z]; exact e4))]; exact e, fun _ n _ => n⟩
  obtain ⟨R2, k3⟩ := R.put (d' := .list ds.dropLast) (o := .lst xs.dropLast) g e1 (.lst upd_same (e3.dropLast.to k2))
  exact ⟨.ref b, e1, .inl ⟨rfl, _, SqL.of e2⟩, b, xs, y, rfl, rfl, e2, by rw [e3.len]; exact y1, q y O _ R2 k3 (y2.to k3)⟩
@[simp] def tPopAt (i : Nat) (t : PTE) : PTE := fun s Q => (∃ ds, s.G[i]? = some (.m (.list ds))) ∧ t s fun k s1 => ∃ ds j d, s1.G[i]? = some (.m (.list ds)) ∧ k = .int (j : Nat) ∧ j < 2 ^ 62 ∧ ds[j]? = some d ∧ Q d { s1 with G := s1.G.set i (.m (.list (ds.eraseIdx j))) }
theorem de_popAt {i : Nat} {t : PTE} (h : PE X o (tVar i)) (ha : DE X e t) (hbase : attributeBase o "pop" X.env (eval o X.env) = eval o X.env := by rfl) (hfew : ((backTo cpos (starEach [e] X.env)).all (fun x => !x.1) && (backToKw cpos (keywordEach [] X.env)).all (fun x => x.1.isSome) && decide ([e].length + ([] : List Keyword).length + (if ([] : List Keyword).isEmpty then 0 else 1) < 30)) = true := by rfl) (hline : (apos.endLine == cpos.line) = true := by rfl)
    (hs : starEach [e] X.env = (false, eval e X.env) :: starEach [] X.env := by rfl) (hpl : (backTo cpos (starEach [] X.env)).any (·.1) = false := by rfl) : DE X (.Call (.Attribute o "pop" apos) [e] [] cpos) (tPopAt i t) := by
  refine ⟨PE.weak (pe_bm PySem.F.plainAttrs_list PySem.F.slot_list_pop PySem.F.type_list_pop mt_popAt h (pa_cons ha.pe pa_nil hs) hbase hfew hline hs hpl) fun σ H Q ⟨p, O, s, R, ⟨ds0, g0⟩, q⟩ => ?_, fun s Q Q' w ⟨g, q⟩ => ⟨g, ha.mono _ _ _ (fun k s1 ⟨ds, j, d, g1, e, z, y, q⟩ => ⟨ds, j, d, g1, e, z, y, w _ _ q⟩) q⟩⟩
  obtain ⟨b, xs, e1, e2, e3, e4⟩ := R.mlist g0
  refine ⟨.ref b, e1, .inl ⟨rfl, _, SqL.of e2⟩, p, O, s, R, ha.mono _ _ _ (fun k s1 ⟨ds, j, d, g1, ek, z, y, q⟩ v O' H' R' k' a => ?_) q⟩
  subst ek
  cases a
  obtain ⟨b', xs', f1, f2, f3, f4⟩ := R'.mlist g1
  rw [e1] at f1; cases f1
  obtain ⟨w, w1, w2⟩ := f3.get' y
  have hj : j < xs'.length := (List.getElem?_eq_some_iff.mp w1).1
  have k2 : Kp O' H' O' (upd H' b (.lst (xs'.eraseIdx j))) := ⟨fun c u e n => by rw [upd_ne (fun z => n (by rw [z]; exact f4))]; exact e, fun _ n _ => n⟩
  obtain ⟨R2, k3⟩ := R'.put (d' := .list (ds.eraseIdx j)) (o := .lst (xs'.eraseIdx j)) g1 e1 (.lst upd_same ((f3.eraseIdx j).to k2))
  refine ⟨b, xs', j, j, w, rfl, rfl, f2, by omega, by omega, ?_, w1, q w O' _ R2 (k'.trans k3) (w2.to k3)⟩
  rw [seqIndex_of (by omega) (by omega)]
  simp

/-! ### the hand -/
@[simp] def tHix (i : Nat) (t : PTE) : PTE := fun s Q => s.G[i]? = some .h ∧ t s fun k s1 => ∃ j d, k = .int j ∧ atI s1.hd j = some d ∧ Q d s1
theorem de_hix {i : Nat} {t : PTE} (hu : X.A.units + 64 < cLine) (h : PE X o (tVar i)) (hb : DE X e t) (hs : PlainIx e := by exact fun _ _ => rfl) : DE X (.Subscript o e pos) (tHix i t) := by
  refine ⟨PE.weak (pe_ix ix_list h hb.pe hs) fun σ H Q ⟨p, O, s, R, g, q⟩ => ?_, fun s Q Q' w ⟨g, q⟩ => ⟨g, hb.mono _ _ _ (fun k s1 ⟨j, d, e1, e2, q⟩ => ⟨j, d, e1, e2, w _ _ q⟩) q⟩⟩
  obtain ⟨a, e1, e2⟩ := R.sl i _ g
  refine ⟨.ref a, e2, p, O, s, R, hb.mono _ _ _ (fun k s1 ⟨j, d, ek, ed, q⟩ v O' H' R' k' av => ?_) q⟩
  subst ek
  cases av
  obtain ⟨f1, xs, f2, f3⟩ := R'.hand a e1
  obtain ⟨w, w1, w2⟩ := f3.atI ed
  exact ⟨a, xs, j, w, rfl, rfl, SqL.of f2, w1, q w O' H' R' k' w2⟩
/-- the hand's content changed -/
theorem Rl.handPut {b : Addr} {xs : List V} {ds : List PyData} (R : Rl K p O σ H s) (hb : p.ha = some b) (l : AtL K O H xs ds) : Rl K p O σ (upd H b (.lst xs)) { s with hd := ds } ∧ Kp O H O (upd H b (.lst xs)) := by
  obtain ⟨h1, xs0, h2, h3⟩ := R.hand b hb
  have k : Kp O H O (upd H b (.lst xs)) := ⟨fun a u e n => by rw [upd_ne (fun z => n (by rw [z]; exact h1))]; exact e, fun _ n _ => n⟩
  have f : Fram p.ha H (upd H b (.lst xs)) := fun a o e n => by rw [upd_ne (fun z => n (.inl (by rw [z]; exact hb)))]; exact e
  have nt : ¬ Tb b := R.tbo.no h2 fun _ z => nomatch z
  exact ⟨R.called f ⟨fun a e => by
    rw [hb] at e; cases e
    exact ⟨h1, xs, upd_same, l.to k⟩, R.tbo.to R.dom k.st (fun a t => upd_ne fun z => nt (by rw [← z]; exact t)) fun a t => R.tbo.ow t⟩, k⟩
end
end PD
end
section
set_option Elab.async false
set_option linter.all false
set_option maxRecDepth 100000
set_option maxHeartbeats 4000000
/-! PD10: targets, what is walked, list comprehensions. -/
namespace PD
variable [TB]
open PySem PySem.Spec PyProof.Rows L2

section
variable {K : PySem.W.Frag} {X : Cx} {p : Pm} {O O' : Ow} {σ σ' : L2.St} {H H' : Hp} {s s' : PSt} {v : V} {d : PyData} {a : Addr} {e ea eb : Expr} {es : List Expr} {pos : Pos}

/-! ### a state seen by a block within -/
theorem wipe_get {i : Nat} : ∀ {vs : List Nat}, i ∉ vs → (L2.wipe σ vs)[i]? = σ[i]?
  | [], _ => rfl
  | w :: ws, h => by
    have h1 : w ≠ i := fun z => h (by rw [z]; exact List.mem_cons_self)
    have h2 : i ∉ ws := fun z => h (List.mem_cons_of_mem _ z)
    show ((L2.wipe σ ws).set w none)[i]? = σ[i]?
    rw [List.getElem?_set_ne h1]
    exact wipe_get h2
@[simp] def wipeG (G : List Sl) : List Nat → List Sl
  | [] => G
  | v :: vs => (wipeG G vs).set v .no
@[simp] def Sl.inn : Sl → Sl
  | .m d => .b d
  | S => S
@[simp] def blkG (G : List Sl) (vs : List Nat) : List Sl := wipeG (G.map Sl.inn) vs
theorem wipeG_len (G : List Sl) : ∀ vs, (wipeG G vs).length = G.length
  | [] => rfl
  | v :: vs => by unfold wipeG; rw [List.length_set, wipeG_len G vs]
theorem wipeG_get {G : List Sl} {i : Nat} {S : Sl} : ∀ {vs : List Nat}, (wipeG G vs)[i]? = some S → S = .no ∨ (i ∉ vs ∧ G[i]? = some S)
  | [], h => .inr ⟨List.not_mem_nil, h⟩
  | v :: vs, h => by
    by_cases e : v = i
    · subst e
      have h : ((wipeG G vs).set v .no)[v]? = some S := h
      rw [List.getElem?_set] at h
      simp only [if_true] at h
      split at h
      · injection h with h; exact .inl h.symm
      · cases h
    · have h : ((wipeG G vs).set v .no)[i]? = some S := h
      rw [List.getElem?_set_ne e] at h
      rcases wipeG_get h with q | ⟨q1, q2⟩
      · exact .inl q
      · exact .inr ⟨fun z => by
          rcases List.mem_cons.mp z with z | z
          · exact e z.symm
          · exact q1 z, q2⟩
theorem Rl.into (R : Rl K p O σ H s) (vs : List Nat) : Rl K ⟨p.ha, H, O⟩ O (L2.wipe σ vs) H { s with G := blkG s.G vs } := by
  refine ⟨?_, fun i S e => ?_, fun i j d d' a e1 => ?_, R.hand, fun a o e _ => e, R.dom, fun a z => z, fun a z => (R.dom a z).ne, fun a z _ => z, R.tbo⟩
  · show (wipeG (s.G.map Sl.inn) vs).length = (L2.wipe σ vs).length
    rw [wipeG_len, L2.wipe_length, List.length_map]
    exact R.len
  · rcases wipeG_get e with z | ⟨z1, z2⟩
    · subst z; trivial
    · rw [wipe_get z1]
      rw [List.getElem?_map] at z2
      cases q : s.G[i]? with
      | none => rw [q] at z2; cases z2
      | some S0 =>
        rw [q] at z2
        injection z2 with z2
        have w := R.sl i S0 q
        subst z2
        cases S0 with
        | no => trivial
        | v d => exact w
        | m d =>
          obtain ⟨a, q1, q2, q3, q4, q5⟩ := w
          exact ⟨a, q1, q5.some, q4, q5.r⟩
        | b d =>
          obtain ⟨a, q1, q2, q3, q4⟩ := w
          exact ⟨a, q1, q4.some, q3, q4⟩
        | h => exact w
  · rcases wipeG_get e1 with z | ⟨z1, z2⟩
    · cases z
    · rw [List.getElem?_map] at z2
      cases q : s.G[i]? with
      | none => rw [q] at z2; cases z2
      | some S0 =>
        rw [q] at z2
        injection z2 with z2
        cases S0 <;> cases z2
theorem Rl.back (R : Rl K p O σ H s) (R' : Rl K ⟨p.ha, H, O⟩ O' σ' H' s') (k : Kp O H O' H') : Rl K p O' σ H' { s with hd := s'.hd } := by
  have stay : ∀ {b : Addr}, H b ≠ none → ¬ p.ex b → H' b = H b := fun {b} h n => by
    cases e : H b with
    | none => exact absurd e h
    | some o => exact R'.frm b o e n
  refine ⟨R.len, fun i S e => ?_, R.inj, R'.hand, fun a o e n => R'.frm a o (R.frm a o e n) n, R'.dom, fun a z => R'.o0 a (R.o0 a z), R.od, fun a z n => ?_, R'.tbo⟩
  · have w := R.sl i S e
    cases S with
    | no => trivial
    | v d => obtain ⟨y, e1, e2⟩ := w; exact ⟨y, e1, e2.to k⟩
    | m d =>
      obtain ⟨b, e1, e2, e3, e4, e5⟩ := w
      exact ⟨b, e1, R'.o0 b e2, e3, e4, e5.to k (stay e5.some e4)⟩
    | b d =>
      obtain ⟨b, e1, e2, e3, e4⟩ := w
      exact ⟨b, e1, e2, e3, e4.to k (stay e4.some e3)⟩
    | h => exact w
  · refine R.ob a (R'.ob a z ?_) n
    show H a ≠ none
    by_cases e : p.ex a
    · rcases e with e | e
      · obtain ⟨_, xs, q, _⟩ := R.hand a e
        rw [q]; exact fun z => nomatch z
      · obtain ⟨ps, q⟩ := R.tbo.at e
        rw [q]; exact fun z => nomatch z
    · cases q : p.H0 a with
      | none => exact absurd q n
      | some o => rw [R.frm a o q e]; exact fun z => nomatch z

/-! ### targets -/
abbrev PTG := PyData → PSt → (PSt → Prop) → Prop
abbrev PTGs := List PyData → PSt → (PSt → Prop) → Prop
/-- just the slots ws are otherwise -/
def Upd (ws : List Nat) (σ σ' : L2.St) : Prop := ∀ us : List Nat, (∀ w ∈ ws, w ∈ us) → L2.wipe σ' us = L2.wipe σ us
def liftG (K : PySem.W.Frag) (ws : List Nat) (g : PTG) : TG := fun v σ H Q => ∃ p O s d, Rl K p O σ H s ∧ At K O H v d ∧ g d s fun s' => ∀ σ', Rl K p O σ' H s' → Upd ws σ σ' → Q σ' H
def liftGs (K : PySem.W.Frag) (ws : List Nat) (g : PTGs) : TGs := fun vs σ H Q => ∃ p O s ds, Rl K p O σ H s ∧ AtL K O H vs ds ∧ g ds s fun s' => ∀ σ', Rl K p O σ' H s' → Upd ws σ σ' → Q σ' H
structure DG (X : Cx) (tg : Expr) (ws : List Nat) (g : PTG) : Prop where
  pg : PG X tg (liftG X.K ws g)
  mono : ∀ d s Q Q', (∀ s', Q s' → Q' s') → g d s Q → g d s Q'
structure DGs (X : Cx) (tg : List Expr) (ws : List Nat) (g : PTGs) : Prop where
  pg : PGs X tg (liftGs X.K ws g)
  mono : ∀ d s Q Q', (∀ s', Q s' → Q' s') → g d s Q → g d s Q'
theorem PG.weak {t t' : TG} (h : PG X e t) (w : ∀ v σ H Q, t' v σ H Q → t v σ H Q) : PG X e t' := ⟨fun pins s σ H v u Q I r q => h.run pins s σ H v u Q I r (w _ _ _ _ q)⟩
theorem PGs.weak {t t' : TGs} (h : PGs X es t) (w : ∀ v σ H Q, t' v σ H Q → t v σ H Q) : PGs X es t' := ⟨fun pins s σ H v u Q I r q => h.run pins s σ H v u Q I r (w _ _ _ _ q)⟩
theorem Upd.refl {ws : List Nat} : Upd ws σ σ := fun _ _ => rfl
theorem wipe_set {i : Nat} {x : Option V} : ∀ {us : List Nat}, i ∈ us → L2.wipe (σ.set i x) us = L2.wipe σ us
  | [], h => nomatch h
  | u :: us, h => by
    show (L2.wipe (σ.set i x) us).set u none = (L2.wipe σ us).set u none
    by_cases e : i ∈ us
    · rw [wipe_set e]
    · have e' : i = u := (List.mem_cons.mp h).resolve_right e
      subst e'
      have w : ∀ vs : List Nat, i ∉ vs → L2.wipe (σ.set i x) vs = (L2.wipe σ vs).set i x := fun vs => by
        induction vs with
        | nil => exact fun _ => rfl
        | cons y ys ih =>
          intro n
          have n1 : i ≠ y := fun z => n (by rw [z]; exact List.mem_cons_self)
          show (L2.wipe (σ.set i x) ys).set y none = ((L2.wipe σ ys).set y none).set i x
          rw [ih fun z => n (List.mem_cons_of_mem _ z), List.set_comm _ _ n1]
      rw [w us e, List.set_set]
theorem Rl.setv {i : Nat} {x : V} (R : Rl K p O σ H s) (h : At K O H x d) : Rl K p O (σ.set i (some x)) H { s with G := s.G.set i (.v d) } := by
  refine ⟨by rw [List.length_set, List.length_set]; exact R.len, fun j S e => ?_, fun j l d1 d2 c q1 q2 z1 z2 => ?_, R.hand, R.frm, R.dom, R.o0, R.od, R.ob, R.tbo⟩
  · by_cases hj : i = j
    · subst hj
      have e : (s.G.set i (.v d))[i]? = some S := e
      have hi : i < s.G.length := by
        by_cases q : i < s.G.length
        · exact q
        · rw [List.getElem?_eq_none (by rw [List.length_set]; omega)] at e; cases e
      rw [List.getElem?_set_self hi] at e; cases e
      exact ⟨x, by rw [List.getElem?_set_self (by rw [← R.len]; exact hi)], h⟩
    · have e : (s.G.set i (.v d))[j]? = some S := e
      rw [List.getElem?_set_ne hj] at e ⊢
      exact R.sl j S e
  · have get : ∀ (j : Nat) (d1 : PyData), (s.G.set i (.v d))[j]? = some (.m d1) → i ≠ j ∧ s.G[j]? = some (.m d1) := fun j d1 q => by
      by_cases hj : i = j
      · subst hj
        rw [List.getElem?_set] at q
        simp only [if_true] at q
        split at q <;> cases q
      · rw [List.getElem?_set_ne hj] at q; exact ⟨hj, q⟩
    obtain ⟨n1, x1⟩ := get j d1 q1
    obtain ⟨n2, x2⟩ := get l d2 q2
    rw [List.getElem?_set_ne n1] at z1
    rw [List.getElem?_set_ne n2] at z2
    exact R.inj j l d1 d2 c x1 x2 z1 z2
@[simp] def gN (i : Nat) : PTG := fun d s Q => Q { s with G := s.G.set i (.v d) }
theorem dg_name {i : Nat} {x : Str} (hN : X.N.Nodup) (hi : X.N[i]? = some x) (hx : Loc X.env.scope x) (hf : X.fn x = true ∨ X.env.scope.names.lookup x = some .local) : DG X (.Name x pos) [i] (gN i) :=
  ⟨PG.weak (pg_name hN hi hx hf) fun v σ H Q ⟨p, O, s, d, R, h, q⟩ => q _ (R.setv h) fun us hu => wipe_set (hu i List.mem_cons_self), fun d s Q Q' w q => w _ q⟩
@[simp] def gNi : PTGs := fun ds s Q => ds = [] ∧ Q s
@[simp] def gCo (g : PTG) (u : PTGs) : PTGs := fun ds s Q => ∃ d r, ds = d :: r ∧ g d s fun s' => u r s' Q
theorem dgs_nil : DGs X [] [] gNi :=
  ⟨PGs.weak pgs_nil fun vs σ H Q ⟨p, O, s, ds, R, h, e, q⟩ => by subst e; cases h; exact ⟨rfl, q σ R .refl⟩, fun d s Q Q' w q => ⟨q.1, w _ q.2⟩⟩
theorem dgs_cons {ws us : List Nat} {g : PTG} {u : PTGs} (h1 : DG X e ws g) (h2 : DGs X es us u)
    (hs : (assignEach (e :: es) X.env).map (·.2) = assign e X.env :: (assignEach es X.env).map (·.2) := by rfl) : DGs X (e :: es) (ws ++ us) (gCo g u) :=
  ⟨PGs.weak (pgs_cons h1.pg h2.pg hs) fun vs σ H Q ⟨p, O, s, ds, R, h, d, r, e, q⟩ => by
    subst e
    cases h with
    | cons a1 a2 =>
      refine ⟨_, _, rfl, p, O, s, d, R, a1, h1.mono _ _ _ _ (fun s1 q1 σ1 R1 u1 => ⟨p, O, s1, r, R1, a2, h2.mono _ _ _ _ (fun s2 q2 σ2 R2 u2 => q2 σ2 R2 fun xs hx => ?_) q1⟩) q⟩
      rw [u2 xs fun w z => hx w (List.mem_append_right _ z), u1 xs fun w z => hx w (List.mem_append_left _ z)],
    fun d s Q Q' w ⟨x, r, e, q⟩ => ⟨x, r, e, h1.mono _ _ _ _ (fun s' => h2.mono _ _ _ _ w) q⟩⟩
/-- a pair as a walk makes it -/
def pairD (x y : PyData) : PyData := .dict [(.none, .none), (.none, x), (.none, y)]
/-- what can be taken apart -/
def unpD : PyData → Option (List PyData)
  | .tuple ds => some ds
  | .list ds => some ds
  | .dict ((.none, .none) :: ds) => some (ds.map (·.2))
  | _ => none
@[simp] theorem unpD_list (ds : List PyData) : unpD (.list ds) = some ds := rfl
@[simp] theorem unpD_tuple (ds : List PyData) : unpD (.tuple ds) = some ds := rfl
@[simp] theorem unpD_pair (x y : PyData) : unpD (pairD x y) = some [x, y] := rfl
theorem AtP.l : ∀ {vs : List V} {ds : List (PyData × PyData)}, AtP K O H vs ds → AtL K O H vs (ds.map (·.2))
  | _, _, .nil => .nil
  | _, _, .cons h t => .cons h (AtP.l t)
theorem At.unp {ds : List PyData} {v : V} (h : At K O H v d) (e : unpD d = some ds) : ∃ a xs, v = .ref a ∧ (SqT K H a xs ∨ SqL K H a xs) ∧ AtL K O H xs ds := by
  unfold unpD at e
  split at e
  · cases e
    cases h with
    | tup s1 l1 => exact ⟨_, _, rfl, .inl s1.sq, l1⟩
  · cases e
    cases h with
    | lst s1 l1 => exact ⟨_, _, rfl, .inr s1.sq, l1⟩
  · cases e
    cases h with
    | pr n s1 l1 => exact ⟨_, _, rfl, .inl (.inl (.inl s1)), l1.l⟩
  · cases e
@[simp] def gTu (n : Nat) (u : PTGs) : PTG := fun d s Q => ∃ ds, unpD d = some ds ∧ ds.length = n ∧ u ds s Q
theorem pg_tupl {t : TGs} {k n : Nat} (hc : X.calm = true) (h : PGs X es t) (hn : (assignEach es X.env).length = n := by rfl) (hst : (assignEach es X.env).findIdx? (·.1) = none := by rfl) :
    PG X (.Tuple es k pos) fun v σ H Q => gTup X.K n t v σ H Q ∨ gLst X.K n t v σ H Q :=
  ⟨fun pins s σ H v u Q I r hw => hw.elim ((pg_tup hc h hn hst).run pins s σ H v u Q I r) ((pg_lst hc h hn hst).run pins s σ H v u Q I r)⟩
theorem dg_tup {ws : List Nat} {k : Nat} {u : PTGs} {n : Nat} (hc : X.calm = true) (h : DGs X es ws u)
    (hn : (assignEach es X.env).length = n := by rfl) (hst : (assignEach es X.env).findIdx? (·.1) = none := by rfl) : DG X (.Tuple es k pos) ws (gTu n u) :=
  ⟨PG.weak (pg_tupl hc h.pg hn hst) fun v σ H Q ⟨p, O, s, d, R, a, ds, e, hl, q⟩ => by
    obtain ⟨b, xs, rfl, s1 | s1, l1⟩ := a.unp e
    · exact .inl ⟨_, _, rfl, s1, by rw [l1.len]; exact hl, p, O, s, ds, R, l1, q⟩
    · exact .inr ⟨_, _, rfl, s1, by rw [l1.len]; exact hl, p, O, s, ds, R, l1, q⟩,
    fun d s Q Q' w ⟨ds, e, hl, q⟩ => ⟨ds, e, hl, h.mono _ _ _ _ w q⟩⟩

/-! ### what is walked -/
/-- how much stands through the walk; lo: all but the hand -/
def Stand (lo : Bool) (p : Pm) (O1 : Ow) (H1 : Hp) (O : Ow) (H : Hp) : Prop := Kp O1 H1 O H ∧ (lo = true → ∀ a o, H1 a = some o → ¬ p.ex a → H a = some o)
structure ItOk (K : PySem.W.Frag) (G : Ow → Hp → Prop) (J : It) (items : List PyData) : Prop where
  go : ∀ i O H, G O H → i < items.length → J.go i H
  stop : ∀ i O H, G O H → items.length ≤ i → J.stop i H
  yld : ∀ i O H x H' d, G O H → (∀ a, O a → NT (H a)) → items[i]? = some d → J.yld i H x H' → (H' = H ∨ ∃ q o, H q = none ∧ H' = upd H q o) ∧ At K O H' x d
abbrev PTI := PSt → (List PyData → PSt → Prop) → Prop
def liftI (K : PySem.W.Frag) (lo : Bool) (t : PTI) : TI := fun σ H R => ∃ p O s, Rl K p O σ H s ∧ t s fun items s' => ∀ J O' H', Rl K p O' σ H' s' → Kp O H O' H' → ItOk K (Stand lo p O' H') J items → R J H'
structure DI (X : Cx) (lo : Bool) (tg e : Expr) (t : PTI) : Prop where
  pi : PI X tg e (liftI X.K lo t)
  mono : ∀ s Q Q', (∀ d s', Q d s' → Q' d s') → t s Q → t s Q'
theorem PI.weak {tg : Expr} {t t' : TI} (h : PI X tg e t) (w : ∀ σ H Q, t' σ H Q → t σ H Q) : PI X tg e t' := ⟨fun pins s σ H Q I q => h.run pins s σ H Q I (w _ _ _ q)⟩
theorem Stand.lo {lo : Bool} {O1 : Ow} {H1 : Hp} (h : Stand true p O1 H1 O H) : Stand lo p O1 H1 O H := ⟨h.1, fun _ => h.2 rfl⟩
theorem DI.lo {tg : Expr} {t : PTI} (h : DI X false tg e t) : DI X true tg e t :=
  ⟨PI.weak h.pi fun σ H R ⟨p, O, s, r, q⟩ => ⟨p, O, s, r, h.mono _ _ _ (fun d s' k J O' H' r' kp i => k J O' H' r' kp ⟨fun n O2 H2 g => i.go n O2 H2 ⟨g.1, fun z => nomatch z⟩, fun n O2 H2 g => i.stop n O2 H2 ⟨g.1, fun z => nomatch z⟩, fun n O2 H2 x H3 d g => i.yld n O2 H2 x H3 d ⟨g.1, fun z => nomatch z⟩⟩) q⟩, h.mono⟩
/-- lists -/
theorem it_list {G : Ow → Hp → Prop} {a : Addr} {xs : List V} {ds : List PyData} (h : ∀ O H, G O H → H a = some (.lst xs) ∧ AtL K O H xs ds) : ItOk K G (Itl K a) ds where
  go i O H g hi := by
    obtain ⟨h1, h2⟩ := h O H g
    exact ⟨xs, _, SqL.of h1, List.getElem?_eq_getElem (by rw [h2.len]; exact hi)⟩
  stop i O H g hi := by
    obtain ⟨h1, h2⟩ := h O H g
    exact ⟨xs, SqL.of h1, by rw [h2.len]; exact hi⟩
  yld i O H x H' d g _ hd y := by
    obtain ⟨e, y⟩ := y
    subst e
    obtain ⟨h1, h2⟩ := h O H' g
    obtain ⟨w, w1, w2⟩ := h2.get' hd
    rw [y xs (SqL.of h1)] at w1
    cases w1
    exact ⟨.inl rfl, w2⟩
theorem it_tup {G : Ow → Hp → Prop} {a : Addr} {xs : List V} {ds : List PyData} (h : ∀ O H, G O H → SqTo K O H a xs ∧ AtL K O H xs ds) : ItOk K G (Itt K a) ds where
  go i O H g hi := by
    obtain ⟨h1, h2⟩ := h O H g
    exact ⟨xs, _, h1.sq, List.getElem?_eq_getElem (by rw [h2.len]; exact hi)⟩
  stop i O H g hi := by
    obtain ⟨h1, h2⟩ := h O H g
    exact ⟨xs, h1.sq, by rw [h2.len]; exact hi⟩
  yld i O H x H' d g _ hd y := by
    obtain ⟨e, y⟩ := y
    subst e
    obtain ⟨h1, h2⟩ := h O H' g
    obtain ⟨w, w1, w2⟩ := h2.get' hd
    rw [y xs h1.sq] at w1
    cases w1
    exact ⟨.inl rfl, w2⟩
theorem it_rng {G : Ow → Hp → Prop} {lo : Int} {n : Nat} : ItOk K G (Itr lo n) ((List.range n).map fun i => .int (lo + (i : Nat))) where
  go i O H g hi := by
    show i < n
    simpa using hi
  stop i O H g hi := by
    show n ≤ i
    simpa using hi
  yld i O H x H' d g _ hd y := by
    obtain ⟨e, y⟩ := y
    subst e y
    have hi : i < n := by
      have := (List.getElem?_eq_some_iff.mp hd).1
      simpa using this
    rw [List.getElem?_map, List.getElem?_range hi] at hd
    cases hd
    exact ⟨.inl rfl, .int _⟩
/-- a new pair -/
theorem at_pair {T : Addr} {x y : V} {d d' : PyData} (hd : ∀ a, O a → NT (H a)) (hT : H T = none) (h1 : At K O H x d) (h2 : At K O H y d') : At K O (upd H T (.tup [x, y])) (.ref T) (pairD d d') :=
  .pr (fun z => (hd T z).ne hT) upd_same (.cons (h1.to (Kp.new hT)) (.cons (h2.to (Kp.new hT)) .nil))
def enumD (ds : List PyData) : List PyData := ds.mapIdx fun i d => pairD (.int (i : Nat)) d
theorem it_enum {G : Ow → Hp → Prop} {a : Addr} {xs : List V} {ds : List PyData} (h : ∀ O H, G O H → H a = some (.lst xs) ∧ AtL K O H xs ds) : ItOk K G (Ite K a) (enumD ds) where
  go i O H g hi := by
    obtain ⟨h1, h2⟩ := h O H g
    exact ⟨xs, _, SqL.of h1, List.getElem?_eq_getElem (by rw [h2.len]; simpa [enumD] using hi)⟩
  stop i O H g hi := by
    obtain ⟨h1, h2⟩ := h O H g
    exact ⟨xs, SqL.of h1, by rw [h2.len]; simpa [enumD] using hi⟩
  yld i O H x H' d g hdm hd y := by
    obtain ⟨T, v, e1, hT, e2, y⟩ := y
    subst e1 e2
    obtain ⟨h1, h2⟩ := h O H g
    have y := y xs (SqL.of h1)
    obtain ⟨w, w1, w2⟩ := h2.get y
    have hd : (ds.mapIdx fun i d => pairD (.int (i : Nat)) d)[i]? = some d := hd
    rw [List.getElem?_mapIdx, w1] at hd
    cases hd
    exact ⟨.inr ⟨T, _, hT, rfl⟩, at_pair hdm hT (.int _) w2⟩
def zipD (xs ys : List PyData) : List PyData := (xs.zip ys).map fun p => pairD p.1 p.2
theorem zipD_get {ds es : List PyData} {i : Nat} {d : PyData} (h : (zipD ds es)[i]? = some d) : ∃ x y, ds[i]? = some x ∧ es[i]? = some y ∧ d = pairD x y := by
  unfold zipD at h
  rw [List.getElem?_map] at h
  cases q : (ds.zip es)[i]? with
  | none => rw [q] at h; cases h
  | some pr =>
    rw [q] at h
    injection h with h
    have := List.getElem?_zip_eq_some.mp q
    exact ⟨pr.1, pr.2, this.1, this.2, h.symm⟩
theorem it_zipL {G : Ow → Hp → Prop} {a b : Addr} {xs ys : List V} {ds es : List PyData} (h : ∀ O H, G O H → (H a = some (.lst xs) ∧ AtL K O H xs ds) ∧ H b = some (.lst ys) ∧ AtL K O H ys es) : ItOk K G (Itz K a b) (zipD ds es) where
  go i O H g hi := by
    obtain ⟨⟨h1, h2⟩, h3, h4⟩ := h O H g
    have hi : i < ds.length ∧ i < es.length := by simpa [zipD, Nat.lt_min] using hi
    exact ⟨xs, ys, _, _, SqL.of h1, SqL.of h3, List.getElem?_eq_getElem (by rw [h2.len]; exact hi.1), List.getElem?_eq_getElem (by rw [h4.len]; exact hi.2)⟩
  stop i O H g hi := by
    obtain ⟨⟨h1, h2⟩, h3, h4⟩ := h O H g
    refine ⟨xs, ys, SqL.of h1, SqL.of h3, ?_⟩
    have hi : min ds.length es.length ≤ i := by simpa [zipD] using hi
    rw [h2.len, h4.len]
    omega
  yld i O H x H' d g hdm hd y := by
    obtain ⟨T, v, w, e1, hT, e2, y1, y2⟩ := y
    subst e1 e2
    obtain ⟨⟨h1, h2⟩, h3, h4⟩ := h O H g
    obtain ⟨w1, q1, r1⟩ := h2.get (y1 xs (SqL.of h1))
    obtain ⟨w2, q2, r2⟩ := h4.get (y2 ys (SqL.of h3))
    obtain ⟨x', y', z1, z2, z3⟩ := zipD_get hd
    rw [q1] at z1; cases z1
    rw [q2] at z2; cases z2
    subst z3
    exact ⟨.inr ⟨T, _, hT, rfl⟩, at_pair hdm hT r1 r2⟩
theorem it_zipT {G : Ow → Hp → Prop} {a b : Addr} {xs ys : List V} {ds es : List PyData} (h : ∀ O H, G O H → (SqTo K O H a xs ∧ AtL K O H xs ds) ∧ SqTo K O H b ys ∧ AtL K O H ys es) : ItOk K G (RZ.ItzT K a b) (zipD ds es) where
  go i O H g hi := by
    obtain ⟨⟨h1, h2⟩, h3, h4⟩ := h O H g
    have hi : i < ds.length ∧ i < es.length := by simpa [zipD, Nat.lt_min] using hi
    exact ⟨xs, ys, _, _, h1.sq, h3.sq, List.getElem?_eq_getElem (by rw [h2.len]; exact hi.1), List.getElem?_eq_getElem (by rw [h4.len]; exact hi.2)⟩
  stop i O H g hi := by
    obtain ⟨⟨h1, h2⟩, h3, h4⟩ := h O H g
    refine ⟨xs, ys, h1.sq, h3.sq, ?_⟩
    have hi : min ds.length es.length ≤ i := by simpa [zipD] using hi
    rw [h2.len, h4.len]
    omega
  yld i O H x H' d g hdm hd y := by
    obtain ⟨T, v, w, e1, hT, e2, y1, y2⟩ := y
    subst e1 e2
    obtain ⟨⟨h1, h2⟩, h3, h4⟩ := h O H g
    obtain ⟨w1, q1, r1⟩ := h2.get (y1 xs h1.sq)
    obtain ⟨w2, q2, r2⟩ := h4.get (y2 ys h3.sq)
    obtain ⟨x', y', z1, z2, z3⟩ := zipD_get hd
    rw [q1] at z1; cases z1
    rw [q2] at z2; cases z2
    subst z3
    exact ⟨.inr ⟨T, _, hT, rfl⟩, at_pair hdm hT r1 r2⟩
end
end PD
end
section
set_option Elab.async false
set_option linter.all false
set_option maxRecDepth 100000
set_option maxHeartbeats 4000000
/-! PD11: enumerate of a tuple; sources of walks. -/
namespace PD
variable [TB]
open PySem PySem.Spec PyProof.Rows L2

/-! ### enumerate(tuple) -/
theorem enumT_new {v : Value} {o : Obj} {G : Heap → Prop} (B : Begins v o G) :
    Meets (Builtin.«enumerate.__new__» ⟨[.type "enumerate", v], []⟩) (fun _ R s => G s.heap ∧
      R (.ok (.ret (.ref (s.heap.push o).objs.size))) { s with heap := (s.heap.push o).push { cls := .type "enumerate", data := .fields #[.none, .bool false, .ref s.heap.objs.size, rawInt 0, .none, .none] } }) :=
  .of_wp fun prog w A R s hh => by
    obtain ⟨hp, g, d, tk, os⟩ := s
    obtain ⟨h1, hr⟩ := hh
    have sub := sub_enumerate
    have step : ∀ {A' : Around} {E : Value → Shared → Prop} {Q : Value → Shared → Prop}, Q (.ref hp.objs.size) ⟨hp.push o, g, d, tk, os⟩ → wpAny (model prog w) A' (pyIter v) Q E ⟨hp, g, d, tk, os⟩ :=
      fun z => B.iter prog w _ _ ⟨hp, g, d, tk, os⟩ _ h1 z
    wp_walk using step
    refine wpAny_stack_any fun stk => wpAny_pure ?_
    split
    · rename_i c1 _ _ _ _ _
      cases (c1 == Value.type "enumerate") <;> (wp_walk using step; exact ⟨_, rfl, hr⟩)
    · wp_walk using step
      exact ⟨_, rfl, hr⟩
theorem call_enumT {prog : Program} {w : World} {A : Around} {E : Value → Shared → Prop} {s : Shared} {v : Value} {o : Obj} {G : Heap → Prop} {Q : Value → Shared → Prop} (B : Begins v o G) (h1 : G s.heap)
    (h : ∀ h', IsEnum h' (s.heap.objs.size + 1) s.heap.objs.size 0 .none → h'.get? s.heap.objs.size = some o →
      (∀ b u, s.heap.get? b = some u → h'.get? b = some u) → Q (.ref (s.heap.objs.size + 1)) { s with heap := h' }) :
    wpAny (model prog w) A (call (.type "enumerate") [v]) Q E s := by
  refine callType_new F.called_enumerate (by decide) (F.typeCall_enumerate_1 _) (F.newCall_enumerate_1 _) (fun ob => F.args_object_init_2 ob _) F.entry_enumerate_new (enumT_new B) ⟨h1, ?_⟩
  have size : (s.heap.push o).objs.size = s.heap.objs.size + 1 := Heap.size_push ..
  show _ ∧ _
  rw [size]
  have e1 : IsEnum ((s.heap.push o).push { cls := .type "enumerate", data := .fields #[.none, .bool false, .ref s.heap.objs.size, rawInt 0, .none, .none] }) (s.heap.objs.size + 1) s.heap.objs.size 0 .none := by
    have w1 := Heap.get?_push_size (s.heap.push o) (o := { cls := .type "enumerate", data := .fields #[.none, .bool false, .ref s.heap.objs.size, rawInt 0, .none, .none] }) rfl
    rw [size] at w1
    exact w1
  exact ⟨⟨_, e1, rfl⟩, h _ e1 (Heap.get?_push_of_some _ (Heap.get?_push_size _ B.free)) fun b u x => Heap.get?_push_of_some _ (Heap.get?_push_of_some _ x)⟩
theorem enumT_end {prog : Program} {w : World} {A : Around} {E : Value → Shared → Prop} {s : Shared} {e it t : Addr} {i : Nat} {k : Int} {items : Array Value} {old : Value} {Q : Option Value → Shared → Prop} (hh : A.handled = none) (he : IsEnum s.heap e it k old) (hit : s.heap.IsTupleIter it t i) (ht : s.heap.IsTuple t items) (hx : items[i]? = none)
    (hQ : ∀ h', Heap.ExtBut it s.heap h' → Q none { s with heap := h' }) : wpAny (model prog w) A (pyNext (.ref e)) Q E s := by
  have ty : s.TypeIs (.ref e) "enumerate" := ⟨_, he, rfl⟩
  unfold pyNext
  refine wpAny_bind (wpAny_attempt (wpAny_callSpecial?_slot (name := Str.ofString "__next__") ty F.slot_enumerate_next (wpAny_call_entry F.slot_enumerate_next ty F.entry_enumerate_next ?_ (F.args_enumerate_next_1 _))))
  show wpAny _ _ (field (.ref e) 2 >>= _) _ _ _
  refine wpAny_bind (wpAny_field he rfl (x := .ref it) rfl (wpAny_bind (wpAny_nextOf_tuple_end hh hit ht hx fun h2 x e2 x2 => ?_)))
  obtain ⟨u, u1, u2⟩ := x2
  exact wpAny_bind (wpAny_isInstance (T := "StopIteration") (b := true) ⟨u, u1, u2⟩ isSubtype_stop (wpAny_pure (hQ _ e2)))
def IteT (K : PySem.W.Frag) (a : Addr) : It :=
  ⟨fun i H => ∃ (xs : List V) (x : V), SqT K H a xs ∧ xs[i]? = some x, fun i H v H' => ∃ T x, v = .ref T ∧ H T = none ∧ H' = upd H T (.tup [.int (i : Nat), x]) ∧ ∀ xs, SqT K H a xs → xs[i]? = some x, fun i H => ∃ xs : List V, SqT K H a xs ∧ xs.length ≤ i⟩
theorem turn_enumT {P : Program} {w : World} {K : PySem.W.Frag} {elts : List Expr} {kk : Nat} {tpos : Pos} (a e it : Addr) :
    Turn P w K (.Tuple elts kk tpos) (IteT K a) [e, it] e (fun i h => (∃ old, IsEnum h e it ((i : Nat) : Int) old) ∧ h.IsTupleIter it a i ∧ e ≠ it) where
  mem := List.mem_cons_self
  obj := fun i h st b hb => by
    obtain ⟨⟨old, h1⟩, ⟨o, h2, h3, h4⟩, _⟩ := st
    have hb : b = e ∨ b = it := by simpa using hb
    rcases hb with z | z
    · subst z; exact ⟨_, h1, fun v q => nomatch q⟩
    · subst z; exact ⟨o, h2, fun v q => by rw [h4] at q; cases q⟩
  keep := fun i h h' ⟨⟨old, h1⟩, h2, h3⟩ k => ⟨⟨old, k e (by simp) _ h1⟩, h2.at fun o q => k it (by simp) o q, h3⟩
  item := by
    intro X hP hw hK hc i pins s σ H E I hf st hg
    subst hP hw hK
    obtain ⟨⟨old, he⟩, hit, hne⟩ := st
    obtain ⟨xs, x, hq, hx⟩ := hg
    obtain ⟨its, rv, pt, _⟩ := I.tuple hq
    obtain ⟨u, hu, ru⟩ := rv.get hx
    have le : e < s.heap.objs.size := Heap.lt_size he
    have li : it < s.heap.objs.size := by obtain ⟨_, q, _⟩ := hit; exact Heap.lt_size q
    obtain ⟨ob, hob, hcls, hdat⟩ := id pt
    have ha : a ≠ it := fun z => by
      obtain ⟨o2, g1, g2, g3⟩ := hit
      rw [z] at hob
      rw [hob] at g1
      cases g1
      obtain ⟨n, hd⟩ := hdat
      rw [g3] at hd; cases hd
    have hae : e ≠ a := fun z => by
      rw [← z] at hob
      rw [he] at hob
      cases hob
      obtain ⟨n, hd⟩ := hdat
      cases hd
    have hl : i < its.toArray.size := by
      have := (List.getElem?_eq_some_iff.mp hu).1
      simpa using this
    refine wpAny_pyNext_enum_itemD (Draws.tuple (prog := X.prog) (w := X.w) (A := X.A.in1) (I.ok.hd hc) it a ha its.toArray) he ⟨hit, pt⟩ hl hne (by simp only [List.mem_cons, List.not_mem_nil, or_false, not_or]; exact ⟨hne, hae⟩) fun y h' tk hP ho hs' hT hz hk => ?_
    have ey : y = u := by
      have hP : its.toArray[i]? = some y := hP
      rw [List.getElem?_toArray, hu] at hP
      injection hP with hP
      exact hP.symm
    subst ey
    refine ⟨_, rfl, wpAny_letOwnedTupleGo_enum (s := { s with heap := h', toks := tk + 1 }) ho fun h2 he2 sb => ?_⟩
    have hT2 : h2.get? s.heap.objs.size = some { cls := .type "tuple", data := .seq #[.int i tk, y] } := (sb.2 _ (Nat.ne_of_gt le)).trans hT
    have new : ObjOk X.prog X.w (upd H s.heap.objs.size (.tup [.int (i : Nat), x])) h2 s.heap.objs.size (.tup [.int (i : Nat), x]) :=
      ⟨by show 2 ≤ sizeLine; decide, [.int i tk, y], .cons ⟨_, rfl⟩ (.cons ru .nil), ⟨_, hT2, rfl, _, rfl⟩⟩
    have I1 : Inv X pins σ (upd H s.heap.objs.size (.tup [.int (i : Nat), x])) { s with heap := h2, toks := tk + 1 } :=
      I.turnedNew (ch := [e, it]) (fun b o hb q => (sb.2 b (fun z => hb (by simp [z]))).trans (hk b o (fun z => hb (by simp [z])) (fun z => hb (by simp [z])) q)) hf (Nat.le_refl _) new
    refine ⟨.ref s.heap.objs.size, _, I1, rfl, ⟨_, x, rfl, I.hok.fresh (Nat.le_refl _), rfl, fun ys hy => by rw [I.tuple_inj hy hq]; exact hx⟩, ⟨⟨y, ?_⟩, hs'.1.at fun o q => (sb.2 it (Ne.symm hne)).trans q, hne⟩, fun b hb => ?_⟩
    · have e1 : ((i + 1 : Nat) : Int) = (i : Int) + 1 := by omega
      rw [e1]
      exact he2
    · have hb2 : b < s.heap.objs.size := by
        have hb : b = e ∨ b = it := by simpa using hb
        rcases hb with z | z <;> subst z <;> assumption
      rw [upd_ne (Nat.ne_of_lt hb2)]
      exact (hf b hb).1
  done := by
    intro X hP hw hK hc i pins s σ H E I hf st hg
    subst hP hw hK
    obtain ⟨⟨old, he⟩, hit, hne⟩ := st
    obtain ⟨xs, hq, hx⟩ := hg
    obtain ⟨its, rv, pt, _⟩ := I.tuple hq
    obtain ⟨f0, f1, f2, f3, f4, f5⟩ := hf it (by simp)
    have hl := rv.length
    obtain ⟨ob, hob, hcls, hdat⟩ := id pt
    have ha : a ≠ it := fun z => by
      obtain ⟨o2, g1, g2, g3⟩ := hit
      rw [z] at hob
      rw [hob] at g1
      cases g1
      obtain ⟨n, hd⟩ := hdat
      rw [g3] at hd; cases hd
    exact enumT_end (I.ok.hd hc) he hit pt (by simp; omega) fun h' eb => ⟨rfl, I.turned (t' := s.toks) (fun b o hb q => eb b o hb q) f0 f1 f3 f4 f5⟩
  self := fun A i s Q E st h => wpAny_pyIter_enum st.1.choose_spec h
end PD
end
section
set_option Elab.async false
set_option linter.all false
set_option maxRecDepth 100000
set_option maxHeartbeats 4000000
/-! PD12: sources of walks; list comprehensions. -/
namespace PD
variable [TB]
open PySem PySem.Spec PyProof.Rows L2

section
variable {K : PySem.W.Frag} {X : Cx} {p : Pm} {O O' : Ow} {σ σ' : L2.St} {H H' : Hp} {s s' : PSt} {v : V} {d : PyData} {a : Addr} {e ea eb tg : Expr} {es : List Expr} {pos ppos : Pos}

theorem pie_list {pins : List (Addr × Obj)} {sh : Shared} {R : It → Hp → Prop} {E : Value → Shared → Prop} {xs : List V} (I : Inv X pins σ H sh) (h : SqL X.K H a xs) (r : R (Itl X.K a) H) : wpAny (model X.prog X.w) X.A (pyIter (.ref a)) (PIE X pins σ tg R) E sh := by
  obtain ⟨us, ru, pl, _⟩ := I.list h
  refine wpAny_pyIter_list pl.isList ⟨sh.heap.objs.size, [sh.heap.objs.size], _, _, H, rfl, ?_, turn_list a _, ⟨_, Heap.get?_push_size _ rfl, rfl, rfl⟩, fun b hb => ?_, r⟩
  · exact I.kept (t' := sh.toks) fun b o z => Heap.get?_push_of_some _ z
  · cases List.mem_singleton.mp hb
    exact I.fpOk (Nat.le_refl _) (I.hok.fresh (Nat.le_refl _))
theorem pie_tup {pins : List (Addr × Obj)} {sh : Shared} {R : It → Hp → Prop} {E : Value → Shared → Prop} {xs : List V} (I : Inv X pins σ H sh) (h : SqT X.K H a xs) (r : R (Itt X.K a) H) : wpAny (model X.prog X.w) X.A (pyIter (.ref a)) (PIE X pins σ tg R) E sh := by
  obtain ⟨us, ru, pl, _⟩ := I.tuple h
  refine wpAny_pyIter_tuple (show sh.heap.IsTuple a us.toArray from pl) ⟨sh.heap.objs.size, [sh.heap.objs.size], _, _, H, rfl, ?_, turn_tuple a _, ⟨_, Heap.get?_push_size _ rfl, rfl, rfl⟩, fun b hb => ?_, r⟩
  · exact I.kept (t' := sh.toks) fun b o z => Heap.get?_push_of_some _ z
  · cases List.mem_singleton.mp hb
    exact I.fpOk (Nat.le_refl _) (I.hok.fresh (Nat.le_refl _))
def iSeq (K : PySem.W.Frag) (tl : TE) : TI := fun σ H R => tl σ H fun x H1 => ∃ a, x = .ref a ∧ ((∃ xs, SqL K H1 a xs ∧ R (Itl K a) H1) ∨ ∃ xs, SqT K H1 a xs ∧ R (Itt K a) H1)
theorem pi_seq {tl : TE} (h : PE X e tl) : PI X tg e (iSeq X.K tl) := ⟨fun pins sh σ H R I q => by
  refine thn (h.run pins sh σ H _ I q) fun v s1 ⟨x, H1, I1, r1, b, ex, q1⟩ => ?_
  subst ex
  cases r1
  rcases q1 with ⟨xs, h1, h2⟩ | ⟨xs, h1, h2⟩
  · exact pie_list I1 h1 h2
  · exact pie_tup I1 h1 h2⟩
@[simp] def tWk (t : PTE) : PTI := fun s Q => t s fun d s' => ∃ ds, (d = .list ds ∨ d = .tuple ds) ∧ Q ds s'
theorem di_seq {t : PTE} (h : DE X e t) : DI X false tg e (tWk t) :=
  ⟨PI.weak (pi_seq h.pe) fun σ H R ⟨p, O, s, r, q⟩ => ⟨p, O, s, r, h.mono _ _ _ (fun d s' ⟨ds, ed, k⟩ v O' H' r' kp av => by
      rcases ed with z | z <;> subst z <;> cases av
      · rename_i b xs h1 h2
        exact ⟨b, rfl, .inl ⟨xs, h1.sq, k _ _ _ r' kp (it_list fun O2 H2 g => ⟨(g.1.sqL h1).2, h2.to g.1⟩)⟩⟩
      · rename_i b xs h1 h2
        exact ⟨b, rfl, .inr ⟨xs, h1.sq, k _ _ _ r' kp (it_tup fun O2 H2 g => ⟨g.1.sqT h1, h2.to g.1⟩)⟩⟩) q⟩,
    fun s Q Q' w q => h.mono _ _ _ (fun d s' ⟨ds, ed, k⟩ => ⟨ds, ed, w _ _ k⟩) q⟩
/-- a list that a name holds, walked while it stands -/
@[simp] def tWkL (t : PTL) : PTI := fun s Q => t s fun r s' => ∃ d ds, rd s' r = some d ∧ (d = .list ds ∨ d = .tuple ds) ∧ Q ds s'
theorem Rl.readH {r : Rv} (R : Rl K p O σ H s) (h : RvOk K p O σ H (.ref a) r) (e : rd s r = some d) : ¬ p.ex a := by
  cases r with
  | c d' =>
    injection e with e
    subst e
    intro z
    have ho : O a := z.elim (fun z => (R.hand a z).1) fun z => R.tbo.ow z
    have h : At K O H (.ref a) d' := h
    cases h with
    | lst h1 _ => exact h1.1 ho
    | tup h1 _ => exact h1.1 ho
    | dicK h1 _ _ => exact h1 ho
    | dicT h1 _ _ => exact h1 ho
    | pr h1 _ _ => exact h1 ho
  | s i =>
    have h : σ[i]? = some (some (.ref a)) := h
    have e : s.G[i]?.bind Sl.data = some d := e
    cases q : s.G[i]? with
    | none => rw [q] at e; cases e
    | some S =>
      rw [q] at e
      have z := R.sl i S q
      rw [h] at z
      cases S with
      | no => cases e
      | v d' =>
        obtain ⟨y, e1, e2⟩ := z
        cases e1
        intro z
        have ho : O a := z.elim (fun z => (R.hand a z).1) fun z => R.tbo.ow z
        cases e2 with
        | lst h1 _ => exact h1.1 ho
        | tup h1 _ => exact h1.1 ho
        | dicK h1 _ _ => exact h1 ho
        | dicT h1 _ _ => exact h1 ho
        | pr h1 _ _ => exact h1 ho
      | m d' => obtain ⟨y, e1, _, _, e2, _⟩ := z; cases e1; exact e2
      | b d' => obtain ⟨y, e1, _, e2, _⟩ := z; cases e1; exact e2
      | h => cases e
theorem di_seqL {t : PTL} (h : DL X e t) : DI X true tg e (tWkL t) :=
  ⟨PI.weak (pi_seq h.pe) fun σ H R ⟨p, O, s, r, q⟩ => ⟨p, O, s, r, h.mono _ _ _ (fun x s' ⟨d, ds, er, ed, k⟩ v O' H' r' kp av => by
      have ae := r'.read av er
      rcases ed with z | z <;> subst z
      · obtain ⟨b, xs, ev, h1, h2⟩ := ae.lst
        subst ev
        have hh := r'.readH av er
        exact ⟨b, rfl, .inl ⟨xs, SqL.of h1, k _ _ _ r' kp (it_list fun O2 H2 g => ⟨g.2 rfl _ _ h1 hh, h2.to g.1⟩)⟩⟩
      · obtain ⟨b, xs, ev, h1, h2⟩ := ae.tup
        subst ev
        exact ⟨b, rfl, .inr ⟨xs, h1.sq, k _ _ _ r' kp (it_tup fun O2 H2 g => ⟨g.1.sqT h1, h2.to g.1⟩)⟩⟩) q⟩,
    fun s Q Q' w q => h.mono _ _ _ (fun x s' ⟨d, ds, er, ed, k⟩ => ⟨d, ds, er, ed, w _ _ k⟩) q⟩
def rngD (lo : Int) (n : Nat) : List PyData := (List.range n).map fun i => .int (lo + (i : Nat))
@[simp] def tRg1 (t : PTA) : PTI := fun s Q => t s fun ds s' => ∃ n : Int, ds = [.int n] ∧ -(2 ^ 62) ≤ n ∧ n < 2 ^ 62 ∧ Q (rngD 0 n.toNat) s'
theorem di_rng1 {t : PTA} (hg : Gl X "range") (hm : X.mg "range" = none) (h : DA X [e] t) (hs : starEach [e] X.env = [(false, eval e X.env)] := by rfl) : DI X false tg (.Call (.Name "range" ppos) [e] [] pos) (tRg1 t) :=
  ⟨PI.weak (pi_range1 hg hm h.pa hs) fun σ H R ⟨p, O, s, r, q⟩ => ⟨p, O, s, r, h.mono _ _ _ (fun ds s' ⟨n, ed, h1, h2, k⟩ vs O' H' r' kp av => by
      subst ed
      cases av with
      | cons a1 a2 =>
        cases a2; cases a1
        exact ⟨n, rfl, h1, h2, k _ _ _ r' kp it_rng⟩) q⟩,
    fun s Q Q' w q => h.mono _ _ _ (fun ds s' ⟨n, ed, h1, h2, k⟩ => ⟨n, ed, h1, h2, w _ _ k⟩) q⟩
@[simp] def tRg2 (t : PTA) : PTI := fun s Q => t s fun ds s' => ∃ m n : Int, ds = [.int m, .int n] ∧ (-(2 ^ 62) ≤ m ∧ m < 2 ^ 62 ∧ -(2 ^ 62) ≤ n ∧ n < 2 ^ 62) ∧ Q (rngD m (n - m).toNat) s'
theorem di_rng2 {t : PTA} (hg : Gl X "range") (hm : X.mg "range" = none) (h : DA X [e, ea] t) (hs : starEach [e, ea] X.env = [(false, eval e X.env), (false, eval ea X.env)] := by rfl) (hs2 : starEach [ea] X.env = [(false, eval ea X.env)] := by rfl) : DI X false tg (.Call (.Name "range" ppos) [e, ea] [] pos) (tRg2 t) :=
  ⟨PI.weak (pi_range2 hg hm h.pa hs hs2) fun σ H R ⟨p, O, s, r, q⟩ => ⟨p, O, s, r, h.mono _ _ _ (fun ds s' ⟨m, n, ed, h1, k⟩ vs O' H' r' kp av => by
      subst ed
      cases av with
      | cons a1 a2 =>
        cases a2 with
        | cons a2 a3 =>
          cases a3; cases a1; cases a2
          exact ⟨m, n, rfl, h1, k _ _ _ r' kp it_rng⟩) q⟩,
    fun s Q Q' w q => h.mono _ _ _ (fun ds s' ⟨m, n, ed, h1, k⟩ => ⟨m, n, ed, h1, w _ _ k⟩) q⟩
/-- enumerate of a list or a tuple -/
def iEn (K : PySem.W.Frag) (ta : TA) : TI := fun σ H R => ta σ H fun vs H1 => ∃ a xs, vs = [.ref a] ∧ ((SqL K H1 a xs ∧ R (Ite K a) H1) ∨ (SqT K H1 a xs ∧ R (IteT K a) H1))
theorem pi_en {ta : TA} {elts : List Expr} {kk : Nat} {tpos : Pos} (hg : Gl X "enumerate") (hm : X.mg "enumerate" = none) (ha : PA X [e] ta) (hs : starEach [e] X.env = [(false, eval e X.env)] := by rfl) :
    PI X (.Tuple elts kk tpos) (.Call (.Name "enumerate" ppos) [e] [] pos) (iEn X.K ta) := by
  refine ⟨fun pins sh σ H R I h => ?_⟩
  refine Call_ (ld_blt I hg hm boot_enumerate (PyProof.Rows.callWith_type1 (thn (ha.run pos pins sh σ H _ I h) fun us s1 ⟨vs, H1, I1, r1, b, xs, ev, q⟩ => ?_) hs rfl))
  subst ev
  cases r1 with
  | cons r rr =>
    cases rr
    cases r
    have fresh : ∀ c ∈ [s1.heap.objs.size + 1, s1.heap.objs.size], FpOk X pins H1 c := fun c hc => by
      have hc : c = s1.heap.objs.size + 1 ∨ c = s1.heap.objs.size := by simpa using hc
      have le : s1.heap.objs.size ≤ c := by rcases hc with z | z <;> omega
      exact I1.fpOk le (I1.hok.fresh le)
    rcases q with ⟨hq, q⟩ | ⟨hq, q⟩
    · obtain ⟨its, rv, pl, _⟩ := I1.list hq
      exact call_enumerate_list pl.isList fun h' h1 h2 _ k => wpAny_pyIter_enum h1 ⟨s1.heap.objs.size + 1, [s1.heap.objs.size + 1, s1.heap.objs.size], _, _, H1, rfl, I1.kept (t' := s1.toks) k, turn_enum b _ _, ⟨⟨.none, h1⟩, h2, Nat.succ_ne_self _⟩, fresh, q⟩
    · obtain ⟨its, rv, pl, _⟩ := I1.tuple hq
      exact call_enumT (begins_tuple b its.toArray) pl fun h' h1 h2 k => wpAny_pyIter_enum h1 ⟨s1.heap.objs.size + 1, [s1.heap.objs.size + 1, s1.heap.objs.size], _, _, H1, rfl, I1.kept (t' := s1.toks) k, turn_enumT b _ _, ⟨⟨.none, h1⟩, ⟨_, h2, rfl, rfl⟩, Nat.succ_ne_self _⟩, fresh, q⟩
theorem it_enumT {G : Ow → Hp → Prop} {xs : List V} {ds : List PyData} (h : ∀ O H, G O H → SqTo K O H a xs ∧ AtL K O H xs ds) : ItOk K G (IteT K a) (enumD ds) where
  go i O H g hi := by
    obtain ⟨h1, h2⟩ := h O H g
    exact ⟨xs, _, h1.sq, List.getElem?_eq_getElem (by rw [h2.len]; simpa [enumD] using hi)⟩
  stop i O H g hi := by
    obtain ⟨h1, h2⟩ := h O H g
    exact ⟨xs, h1.sq, by rw [h2.len]; simpa [enumD] using hi⟩
  yld i O H x H' d g hdm hd y := by
    obtain ⟨T, v, e1, hT, e2, y⟩ := y
    subst e1 e2
    obtain ⟨h1, h2⟩ := h O H g
    have y := y xs h1.sq
    obtain ⟨w, w1, w2⟩ := h2.get y
    have hd : (ds.mapIdx fun i d => pairD (.int (i : Nat)) d)[i]? = some d := hd
    rw [List.getElem?_mapIdx, w1] at hd
    cases hd
    exact ⟨.inr ⟨T, _, hT, rfl⟩, at_pair hdm hT (.int _) w2⟩
@[simp] def tEn (t : PTA) : PTI := fun s Q => t s fun ds s' => ∃ d xs, ds = [d] ∧ (d = .list xs ∨ d = .tuple xs) ∧ Q (enumD xs) s'
theorem di_enum {t : PTA} {elts : List Expr} {kk : Nat} {tpos : Pos} (hg : Gl X "enumerate") (hm : X.mg "enumerate" = none) (h : DA X [e] t) (hs : starEach [e] X.env = [(false, eval e X.env)] := by rfl) :
    DI X false (.Tuple elts kk tpos) (.Call (.Name "enumerate" ppos) [e] [] pos) (tEn t) :=
  ⟨PI.weak (pi_en hg hm h.pa hs) fun σ H R ⟨p, O, s, r, q⟩ => ⟨p, O, s, r, h.mono _ _ _ (fun ds s' ⟨d, xs, ed, ex, k⟩ vs O' H' r' kp av => by
      subst ed
      cases av with
      | cons a1 a2 =>
        cases a2
        rcases ex with z | z <;> subst z <;> cases a1
        · rename_i b ys h1 h2
          exact ⟨b, ys, rfl, .inl ⟨h1.sq, k _ _ _ r' kp (it_enum fun O2 H2 g => ⟨(g.1.sqL h1).2, h2.to g.1⟩)⟩⟩
        · rename_i b ys h1 h2
          exact ⟨b, ys, rfl, .inr ⟨h1.sq, k _ _ _ r' kp (it_enumT fun O2 H2 g => ⟨g.1.sqT h1, h2.to g.1⟩)⟩⟩) q⟩,
    fun s Q Q' w q => h.mono _ _ _ (fun ds s' ⟨d, xs, ed, ex, k⟩ => ⟨d, xs, ed, ex, w _ _ k⟩) q⟩
@[simp] def tZp (t : PTA) : PTI := fun s Q => t s fun ds s' => ∃ xs ys, (ds = [.list xs, .list ys] ∨ ds = [.tuple xs, .tuple ys]) ∧ Q (zipD xs ys) s'
theorem di_zip {t : PTA} {elts : List Expr} {kk : Nat} {tpos : Pos} (hg : Gl X "zip") (hm : X.mg "zip" = none) (h : DA X [e, ea] t) (hs : starEach [e, ea] X.env = (false, eval e X.env) :: starEach [ea] X.env := by rfl) (hpl : (backTo pos (starEach [ea] X.env)).any (·.1) = false := by rfl) :
    DI X false (.Tuple elts kk tpos) (.Call (.Name "zip" ppos) [e, ea] [] pos) (tZp t) :=
  ⟨PI.weak (RZ.pi_zipA hg hm h.pa hs hpl) fun σ H R ⟨p, O, s, r, q⟩ => ⟨p, O, s, r, h.mono _ _ _ (fun ds s' ⟨xs, ys, ed, k⟩ vs O' H' r' kp av => by
      rcases ed with ed | ed
      · subst ed
        cases av with
        | cons a1 a2 =>
          cases a2 with
          | cons a2 a3 =>
            cases a3; cases a1; cases a2
            rename_i b xs h1 h2 c ys h3 h4
            exact ⟨_, _, _, _, rfl, .inl ⟨h1.sq, h3.sq, k _ _ _ r' kp (it_zipL fun O2 H2 g => ⟨⟨(g.1.sqL h1).2, h2.to g.1⟩, (g.1.sqL h3).2, h4.to g.1⟩)⟩⟩
      · subst ed
        cases av with
        | cons a1 a2 =>
          cases a2 with
          | cons a2 a3 =>
            cases a3; cases a1; cases a2
            rename_i b xs h1 h2 c ys h3 h4
            exact ⟨_, _, _, _, rfl, .inr ⟨h1.sq, h3.sq, k _ _ _ r' kp (it_zipT fun O2 H2 g => ⟨⟨g.1.sqT h1, h2.to g.1⟩, g.1.sqT h3, h4.to g.1⟩)⟩⟩) q⟩,
    fun s Q Q' w q => h.mono _ _ _ (fun ds s' ⟨xs, ys, ed, k⟩ => ⟨xs, ys, ed, w _ _ k⟩) q⟩
end
end PD
end
section
set_option Elab.async false
set_option linter.all false
set_option maxRecDepth 100000
set_option maxHeartbeats 4000000
/-! PD13: list comprehensions. -/
namespace PD
variable [TB]
open PySem PySem.Spec PyProof.Rows L2

section
variable {K : PySem.W.Frag} {X : Cx} {p : Pm} {O O' : Ow} {σ σ' : L2.St} {H H' : Hp} {s s' : PSt} {v : V} {d : PyData} {a : Addr} {e ea eb tg : Expr} {es : List Expr} {pos ppos : Pos}

theorem wipe_in {i : Nat} : ∀ {vs : List Nat}, i ∈ vs → (L2.wipe σ vs)[i]? = σ[i]?.map fun _ => none
  | w :: ws, h => by
    show ((L2.wipe σ ws).set w none)[i]? = _
    by_cases z : w = i
    · subst z
      rw [List.getElem?_set]
      simp only [if_true]
      rw [L2.wipe_length]
      by_cases q : w < σ.length
      · rw [if_pos q, List.getElem?_eq_getElem q]; rfl
      · rw [if_neg q, List.getElem?_eq_none (by omega)]; rfl
    · rw [List.getElem?_set_ne z]
      exact wipe_in ((List.mem_cons.mp h).resolve_left fun y => z y.symm)
theorem wipe_idem (vs : List Nat) : L2.wipe (L2.wipe σ vs) vs = L2.wipe σ vs := by
  apply List.ext_getElem?
  intro i
  by_cases h : i ∈ vs
  · rw [wipe_in h, wipe_in h]
    cases σ[i]? <;> rfl
  · rw [wipe_get h]
/-- an owned place that no slot knows, with another content -/
theorem Rl.putD {D : Addr} {o : HO} (R : Rl K p O σ H s) (hO : O D) (h0 : p.H0 D = none) (hh : ¬ p.ex D) (hm : ∀ (i : Nat) (d' : PyData), s.G[i]? = some (.m d') → σ[i]? ≠ some (some (.ref D))) (ho : NT (some o) := by exact True.intro) :
    Rl K p O σ (upd H D o) s ∧ Kp O H O (upd H D o) := by
  have k : Kp O H O (upd H D o) := ⟨fun a u e n => by rw [upd_ne fun z => n (by rw [z]; exact hO)]; exact e, fun _ n _ => n⟩
  refine ⟨⟨R.len, fun i S e => ?_, R.inj, fun a e => ?_, fun a u e n => ?_, fun a z => ?_, R.o0, R.od, R.ob, R.tbo.to R.dom k.st (fun a t => upd_ne fun z => hh (.inr (by rw [← z]; exact t))) fun a t => R.tbo.ow t⟩, k⟩
  · have q := R.sl i S e
    cases S with
    | no => trivial
    | v d => obtain ⟨y, e1, e2⟩ := q; exact ⟨y, e1, e2.to k⟩
    | m d =>
      obtain ⟨b, e1, e2, e3, e4, e5⟩ := q
      exact ⟨b, e1, e2, e3, e4, e5.to k (upd_ne fun z => hm i d e (by rw [e1, z]))⟩
    | b d =>
      obtain ⟨b, e1, e2, e3, e4⟩ := q
      exact ⟨b, e1, e2, e3, e4.to k (upd_ne fun z => e2 (by rw [z]; exact h0))⟩
    | h => exact q
  · obtain ⟨e1, xs, e2, e3⟩ := R.hand a e
    exact ⟨e1, xs, by rw [upd_ne fun z => hh (.inl (by rw [← z]; exact e))]; exact e2, e3.to k⟩
  · rw [upd_ne fun z => by rw [z, h0] at e; cases e]
    exact R.frm a u e n
  · by_cases z' : a = D
    · rw [z', upd_same]; exact ho
    · rw [upd_ne z']; exact R.dom a z
/-- a clause's tests -/
structure DTs (X : Cx) (ifs : List Expr) (t : PTT) : Prop where
  pt : PTs X ifs (liftT X.K t)
  mono : MonoT t
@[simp] def tYs : PTT := fun s Q => Q true s
theorem dts_nil : DTs X [] tYs := ⟨⟨fun pins sh σ H Q I ⟨p, O, s, R, q⟩ => pts_nil.run pins sh σ H Q I (q O H R .refl)⟩, fun s Q Q' w q => w _ _ q⟩
theorem dts_one {t : PTT} (h : DT X e t) : DTs X [e] t := ⟨pts_one h.pt, h.mono⟩
/-- the turns of a comprehension -/
def cRun (g : PTG) (tt : PTT) (te : PTE) (vs : List Nat) (G : List Sl) : List PyData → List PyData → List PyData → (List PyData → List PyData → Prop) → Prop
  | [], out, hd, Q => Q out hd
  | d :: ds, out, hd, Q => g d ⟨blkG G vs, hd⟩ fun s1 => tt s1 fun b s2 => if b = true then te s2 fun y s3 => cRun g tt te vs G ds (out ++ [y]) s3.hd Q else cRun g tt te vs G ds out s2.hd Q
theorem cRun_mono {g : PTG} {tt : PTT} {te : PTE} {vs : List Nat} {G : List Sl} (hg : ∀ d s Q Q', (∀ s', Q s' → Q' s') → g d s Q → g d s Q') (ht : MonoT tt) (he : Mono te) {Q Q' : List PyData → List PyData → Prop} (w : ∀ o h, Q o h → Q' o h) :
    ∀ (ds out hd : List PyData), cRun g tt te vs G ds out hd Q → cRun g tt te vs G ds out hd Q'
  | [], _, _, q => w _ _ q
  | d :: ds, out, hd, q => hg _ _ _ _ (fun s1 => ht _ _ _ fun b s2 q => by
      cases b with
      | true => exact he _ _ _ (fun y s3 => cRun_mono hg ht he w ds _ _) q
      | false => exact cRun_mono hg ht he w ds _ _ q) q
@[simp] def tComp (ti : PTI) (g : PTG) (tt : PTT) (te : PTE) (vs : List Nat) : PTE := fun s Q => ti s fun items s1 => items.length ≤ sizeLine ∧ cRun g tt te vs s1.G items [] s1.hd fun out hd => Q (.list out) { s1 with hd := hd }
/-- in every block of the scope -/
abbrev Blk (X : Cx) (scope : Scope) (P : Cx → Prop) : Prop := ∀ (s : Shared) (H : Hp) (C : Addr) (cl : List (Str × Addr)) (fp : List Addr), P (X.blk s H scope (compEnvC scope cl C X.env) fp)
variable {iter elt : Expr} {ifs : List Expr} {scope : Scope} {own : List (Str × Nat)}
theorem lc_read {ti : PTI} {g : PTG} {tt : PTT} {te : PTE} {vs ws : List Nat} {Q : VK} (hi : ∀ s Q Q', (∀ d s', Q d s' → Q' d s') → ti s Q → ti s Q') (hg : ∀ d s Q Q', (∀ s', Q s' → Q' s') → g d s Q → g d s Q') (ht : MonoT tt) (he : Mono te)
    (hw : ∀ w ∈ ws, w ∈ vs) (h : liftF K (tComp ti g tt te vs) σ H Q) : tLc (liftI K true ti) (liftG K ws g) (liftT K tt) (lift K te) vs σ H Q := by
  obtain ⟨p, O, s, R, q⟩ := h
  refine ⟨p, O, s, R, hi _ _ _ (fun items s1 ⟨hsz, q1⟩ J O1 H1 R1 k1 it D hD => ?_) q⟩
  obtain ⟨f0, fh, fm⟩ := R1.fresh hD
  generalize hF : (fun out hd => ∀ a O' H', Rl K p O' σ H' { s1 with hd := hd } → Kp O H O' H' → Lone K p O' σ H' { s1 with hd := hd } a (.list out) → Q (.ref a) H' : List PyData → List PyData → Prop) = F at q1
  let S : Nat → Hp → Prop := fun i H => ∃ O2 out acc hd, Rl K p O2 σ H { s1 with hd := hd } ∧ Stand true p O1 H1 O2 H ∧ O2 D ∧ H D = some (.lst acc) ∧ AtL K O2 H acc out ∧ out.length ≤ i ∧ cRun g tt te vs s1.G (items.drop i) out hd F
  refine ⟨fun i m H => m = items.length - i ∧ i ≤ items.length ∧ S i H, ⟨items.length, by simp, Nat.zero_le _, O1.with D, [], [], s1.hd, R1.newOwn hD, ⟨Kp.newOwn hD, fun _ a o e n => ?_⟩, .inr rfl, upd_same, .nil, Nat.le_refl _, q1⟩, ?_⟩
  · rw [upd_ne fun z => by rw [z, hD] at e; cases e]; exact e
  · rintro i m H2 ⟨rfl, hle, O2, out, acc, hd, R2, st, oD, eD, al, ol, c⟩
    by_cases hlt : i < items.length
    · refine .inr ⟨it.go i O2 H2 st hlt, S (i + 1), fun H' w => ⟨items.length - (i + 1), by omega, rfl, hlt, w⟩, fun x H3 y => ?_⟩
      obtain ⟨alt, ax⟩ := it.yld i O2 H2 x H3 items[i] st R2.dom (List.getElem?_eq_getElem hlt) y
      have step : Rl K p O2 σ H3 { s1 with hd := hd } ∧ Kp O2 H2 O2 H3 ∧ ∀ a o, H2 a = some o → H3 a = some o := by
        rcases alt with z | ⟨b, o, hb, z⟩
        · subst z; exact ⟨R2, .refl, fun _ _ h => h⟩
        · subst z
          exact ⟨R2.new hb, Kp.new hb, fun a u e => by rw [upd_ne fun z => by rw [z, hb] at e; cases e]; exact e⟩
      obtain ⟨R3, k3, st3⟩ := step
      rw [List.drop_eq_getElem_cons hlt] at c
      have RB := R3.into vs
      -- behind the turn
      have fin : ∀ {O4 σ4 H4} {s4 : PSt}, Rl K ⟨p.ha, H3, O2⟩ O4 σ4 H4 s4 → Kp O2 H3 O4 H4 → Rl K p O4 σ H4 { s1 with hd := s4.hd } ∧ Stand true p O1 H1 O4 H4 ∧ O4 D ∧ H4 D = some (.lst acc) ∧ AtL K O4 H4 acc out := fun {O4 σ4 H4 s4} R4 k4 =>
        ⟨R3.back R4 k4, ⟨st.1.trans (k3.trans k4), fun _ a o e n => R4.frm a o (st3 a o (st.2 rfl a o e n)) n⟩, R4.o0 D oD, R4.frm D _ (st3 D _ eD) fh, al.to (k3.trans k4)⟩
      refine ⟨⟨p.ha, H3, O2⟩, O2, _, items[i], RB, ax, hg _ _ _ _ (fun sA qA σA RA uA => ⟨by rw [uA vs hw, wipe_idem], ⟨p.ha, H3, O2⟩, O2, sA, RA, ht _ _ _ (fun b sB qB O4 H4 R4 k4 => ?_) qA⟩) c⟩
      cases b with
      | true =>
        refine ⟨⟨p.ha, H3, O2⟩, O4, sB, R4, he _ _ _ (fun y sC qC u O5 H5 R5 k5 au => ?_) qB⟩
        obtain ⟨g1, g2, g3, g4, g5⟩ := fin R5 (k4.trans k5)
        obtain ⟨R6, k6⟩ := g1.putD (o := .lst (acc ++ [u])) g3 f0 fh fm
        refine ⟨acc, g4, by rw [g5.len]; omega, O5, out ++ [y], acc ++ [u], sC.hd, R6, ⟨g2.1.trans k6, fun _ a o e n => ?_⟩, g3, upd_same, (g5.to k6).append (.cons (au.to k6) .nil), by rw [List.length_append]; simp; exact ol, qC⟩
        rw [upd_ne fun z => by rw [z, hD] at e; cases e]
        exact g2.2 rfl a o e n
      | false =>
        obtain ⟨g1, g2, g3, g4, g5⟩ := fin R4 k4
        exact ⟨O4, out, acc, sB.hd, g1, g2, g3, g4, g5, Nat.le_succ_of_le ol, qB⟩
    · have ei : i = items.length := by omega
      subst ei
      rw [List.drop_length] at c
      refine .inl ⟨it.stop _ O2 H2 st (Nat.le_refl _), ?_⟩
      subst hF
      exact c D O2 H2 R2 (k1.trans st.1) ⟨oD, f0, fh, .lst eD al, fm⟩
theorem mono_comp {ti : PTI} {g : PTG} {tt : PTT} {te : PTE} {vs : List Nat} (hi : ∀ s Q Q', (∀ d s', Q d s' → Q' d s') → ti s Q → ti s Q') (hg : ∀ d s Q Q', (∀ s', Q s' → Q' s') → g d s Q → g d s Q') (ht : MonoT tt) (he : Mono te) : Mono (tComp ti g tt te vs) :=
  fun s Q Q' w q => hi _ _ _ (fun items s1 ⟨z, q⟩ => ⟨z, cRun_mono hg ht he (fun o h => w _ _) _ _ _ q⟩) q
theorem df_lc {ti : PTI} {g : PTG} {tt : PTT} {te : PTE} {ws : List Nat} (hc : X.calm = true) (hN : X.N.Nodup) (hi : DI X true tg iter ti) (ok : BlkOk X.N X.env.scope scope own)
    (hg : Blk X scope fun Y => DG Y tg ws g) (ht : Blk X scope fun Y => DTs Y ifs tt) (he : Blk X scope fun Y => DE Y elt te) (hw : ∀ w ∈ ws, w ∈ own.map (·.2)) (hs : ∀ x, foldedSetIterable iter X.env x = pure x := by intro _; rfl) :
    DF X (.ListComp elt [⟨tg, iter, ifs, 0⟩] scope pos) (tComp ti g tt te (own.map (·.2))) := by
  have h0 := hg X.s_0 X.H_0 0 [] []
  have h1 := ht X.s_0 X.H_0 0 [] []
  have h2 := he X.s_0 X.H_0 0 [] []
  exact ⟨PE.weak (pe_lc hc hN hi.pi ok (fun s H C cl fp => (hg s H C cl fp).pg) (fun s H C cl fp => (ht s H C cl fp).pt) (fun s H C cl fp => (he s H C cl fp).pe) hs) fun σ H Q q => lc_read hi.mono h0.mono h1.mono h2.mono hw q, mono_comp hi.mono h0.mono h1.mono h2.mono⟩
end
end PD
end
section
set_option Elab.async false
set_option linter.all false
set_option maxRecDepth 100000
set_option maxHeartbeats 4000000
/-! PD14: statements. -/
namespace PD
variable [TB]
open PySem PySem.Spec PyProof.Rows L2

/-- a value: fr: new and held by nothing -/
def Val (K : PySem.W.Frag) (p : Pm) (O : Ow) (σ : L2.St) (H : Hp) (s : PSt) (fr : Bool) (v : V) (d : PyData) : Prop := if fr = true then ∃ a, v = .ref a ∧ Lone K p O σ H s a d else At K O H v d
def liftX (K : PySem.W.Frag) (fr : Bool) (t : PTE) : TE := fun σ H QV => ∃ p O s, Rl K p O σ H s ∧ t s fun d s' => ∀ v O' H', Rl K p O' σ H' s' → Kp O H O' H' → Val K p O' σ H' s' fr v d → QV v H'
structure DX (X : Cx) (fr : Bool) (e : Expr) (t : PTE) : Prop where
  pe : PE X e (liftX X.K fr t)
  mono : Mono t
@[simp] def Sl.of (fr : Bool) (d : PyData) : Sl := if fr = true then .m d else .v d

/-- how a body ends -/
structure PEnds where
  nx : PSt → Prop
  rt : Bool → PyData → PSt → Prop
  bk : PSt → Prop
  ct : PSt → Prop
structure PEnds.Le (E E' : PEnds) : Prop where
  nx : ∀ s, E.nx s → E'.nx s
  rt : ∀ b d s, E.rt b d s → E'.rt b d s
  bk : ∀ s, E.bk s → E'.bk s
  ct : ∀ s, E.ct s → E'.ct s
abbrev PTS := PEnds → PSt → Prop
def MonoS (t : PTS) : Prop := ∀ s E E', PEnds.Le E E' → t E s → t E' s
def goes (K : PySem.W.Frag) (p : Pm) (O : Ow) (H : Hp) (F : L2.St → Hp → Prop) : PSt → Prop := fun s' => ∀ σ' O' H', Rl K p O' σ' H' s' → Kp O H O' H' → F σ' H'
def endsOf (K : PySem.W.Frag) (p : Pm) (O : Ow) (H : Hp) (D : Ends) : PEnds :=
  ⟨goes K p O H D.nx, fun fr d s' => ∀ v σ' O' H', Rl K p O' σ' H' s' → Kp O H O' H' → Val K p O' σ' H' s' fr v d → D.rt v H', goes K p O H D.bk, goes K p O H D.ct⟩
def liftS (K : PySem.W.Frag) (t : PTS) : TS := fun D σ H => ∃ p O s, Rl K p O σ H s ∧ t (endsOf K p O H D) s
structure DS (X : Cx) (st : Stmt) (t : PTS) : Prop where
  ps : PS X st (liftS X.K t)
  mono : MonoS t
structure DSs (X : Cx) (st : List Stmt) (t : PTS) : Prop where
  ps : PSs X st (liftS X.K t)
  mono : MonoS t

section
variable {K : PySem.W.Frag} {X : Cx} {p : Pm} {O O' : Ow} {σ σ' : L2.St} {H H' : Hp} {s s' : PSt} {v : V} {d : PyData} {a : Addr} {e ea eb tg : Expr} {es : List Expr} {pos ppos : Pos} {st : Stmt} {sts : List Stmt} {t u : PTS} {te ta tb : PTE} {fr : Bool}
/-- the ends of a loop's turn -/
@[simp] def PEnds.lp (E : PEnds) (N : PSt → Prop) : PEnds := ⟨N, E.rt, E.nx, N⟩
theorem PEnds.Le.lp {E E' : PEnds} {N N' : PSt → Prop} (w : PEnds.Le E E') (k : ∀ s, N s → N' s) : PEnds.Le (E.lp N) (E'.lp N') := ⟨k, w.rt, w.nx, k⟩
theorem PEnds.Le.refl {E : PEnds} : PEnds.Le E E := ⟨fun _ h => h, fun _ _ _ h => h, fun _ h => h, fun _ h => h⟩
theorem DE.x (h : DE X e te) : DX X false e te := ⟨PE.weak h.pe fun σ H Q ⟨p, O, s, r, q⟩ => ⟨p, O, s, r, h.mono _ _ _ (fun d s' k v O' H' R' k' a => k v O' H' R' k' a) q⟩, h.mono⟩
theorem DF.x (h : DF X e te) : DX X true e te := ⟨PE.weak h.pe fun σ H Q ⟨p, O, s, r, q⟩ => ⟨p, O, s, r, h.mono _ _ _ (fun d s' k a O' H' R' k' l => k _ O' H' R' k' ⟨a, rfl, l⟩) q⟩, h.mono⟩
theorem goes_to {F : L2.St → Hp → Prop} (k : Kp O H O' H') (h : goes K p O H F s) : goes K p O' H' F s := fun σ' O2 H2 R k2 => h σ' O2 H2 R (k.trans k2)
theorem endsOf_to {D : Ends} (k : Kp O H O' H') : PEnds.Le (endsOf K p O H D) (endsOf K p O' H' D) :=
  ⟨fun _ h => goes_to k h, fun _ _ _ h v σ' O2 H2 R k2 => h v σ' O2 H2 R (k.trans k2), fun _ h => goes_to k h, fun _ h => goes_to k h⟩
theorem PS.weak {t t' : TS} (h : PS X st t) (w : ∀ D σ H, t' D σ H → t D σ H) : PS X st t' := ⟨fun pins s σ H D I q => h.run pins s σ H D I (w _ _ _ q)⟩
theorem PSs.weak {t t' : TS} (h : PSs X sts t) (w : ∀ D σ H, t' D σ H → t D σ H) : PSs X sts t' := ⟨fun pins s σ H D I q => h.run pins s σ H D I (w _ _ _ q)⟩

/-! ### stores in slots -/
theorem Rl.setx {i : Nat} (R : Rl K p O σ H s) (h : Val K p O σ H s fr v d) : Rl K p O (σ.set i (some v)) H { s with G := s.G.set i (Sl.of fr d) } := by
  cases fr with
  | false => exact R.setv h
  | true =>
    obtain ⟨a, rfl, l1, l2, l3, l4, l5⟩ := h
    show Rl K p O (σ.set i (some (.ref a))) H { s with G := s.G.set i (.m d) }
    refine ⟨by rw [List.length_set, List.length_set]; exact R.len, fun j S e => ?_, fun j l d1 d2 c q1 q2 z1 z2 => ?_, R.hand, R.frm, R.dom, R.o0, R.od, R.ob, R.tbo⟩
    · by_cases hj : i = j
      · subst hj
        have e : (s.G.set i (.m d))[i]? = some S := e
        have hi : i < s.G.length := by
          by_cases q : i < s.G.length
          · exact q
          · rw [List.getElem?_eq_none (by rw [List.length_set]; omega)] at e; cases e
        rw [List.getElem?_set_self hi] at e; cases e
        exact ⟨a, by rw [List.getElem?_set_self (by rw [← R.len]; exact hi)], l1, l2, l3, l4⟩
      · have e : (s.G.set i (.m d))[j]? = some S := e
        rw [List.getElem?_set_ne hj] at e ⊢
        exact R.sl j S e
    · have get : ∀ (j : Nat) (d1 : PyData), (s.G.set i (.m d))[j]? = some (.m d1) → (σ.set i (some (.ref a)))[j]? = some (some (.ref c)) → (j = i ∧ c = a) ∨ (i ≠ j ∧ s.G[j]? = some (.m d1) ∧ σ[j]? = some (some (.ref c))) := fun j d1 q z => by
        by_cases hj : i = j
        · subst hj
          refine .inl ⟨rfl, ?_⟩
          rw [List.getElem?_set] at z
          simp only [if_true] at z
          split at z
          · cases z; rfl
          · cases z
        · rw [List.getElem?_set_ne hj] at q z; exact .inr ⟨hj, q, z⟩
      rcases get j d1 q1 z1 with ⟨x1, y1⟩ | ⟨x1, y1, w1⟩
      · rcases get l d2 q2 z2 with ⟨x2, y2⟩ | ⟨x2, y2, w2⟩
        · rw [x1, x2]
        · subst y1; exact absurd w2 (l5 l d2 y2)
      · rcases get l d2 q2 z2 with ⟨x2, y2⟩ | ⟨x2, y2, w2⟩
        · subst y2; exact absurd w1 (l5 j d1 y1)
        · exact R.inj j l d1 d2 c y1 y2 w1 w2

/-! ### blocks -/
@[simp] def tNx : PTS := fun E s => E.nx s
@[simp] def tSq (t u : PTS) : PTS := fun E s => t { E with nx := u E } s
theorem dss_nil : DSs X [] tNx := ⟨PSs.weak pss_nil fun D σ H ⟨p, O, s, R, q⟩ => q σ O H R .refl, fun s E E' w q => w.nx _ q⟩
theorem mono_sq (h : MonoS t) (k : MonoS u) : MonoS (tSq t u) := fun s E E' w q => h _ { E with nx := u E } { E' with nx := u E' } ⟨fun s' => k s' _ _ w, w.rt, w.bk, w.ct⟩ q
theorem dss_cons (h : DS X st t) (k : DSs X sts u) : DSs X (st :: sts) (tSq t u) :=
  ⟨PSs.weak (pss_cons h.ps k.ps) fun D σ H ⟨p, O, s, R, q⟩ => ⟨p, O, s, R, h.mono _ { endsOf X.K p O H D with nx := u (endsOf X.K p O H D) } _ ⟨fun s' q σ' O' H' R' k' => ⟨p, O', s', R', k.mono _ _ _ (endsOf_to k') q⟩, fun _ _ _ h => h, fun _ h => h, fun _ h => h⟩ q⟩, mono_sq h.mono k.mono⟩
theorem dss_never : DSs X sts fun _ _ => False := ⟨PSs.weak pss_never fun D σ H ⟨p, O, s, R, q⟩ => q, fun _ _ _ _ q => q⟩
theorem ds_never : DS X st fun _ _ => False := ⟨PS.weak ps_never fun D σ H ⟨p, O, s, R, q⟩ => q, fun _ _ _ _ q => q⟩
theorem ds_pass : DS X (.Pass pos) tNx := ⟨PS.weak ps_pass fun D σ H ⟨p, O, s, R, q⟩ => q σ O H R .refl, fun s E E' w q => w.nx _ q⟩
theorem ds_break : DS X (.Break pos) fun E s => E.bk s := ⟨PS.weak ps_break fun D σ H ⟨p, O, s, R, q⟩ => q σ O H R .refl, fun s E E' w q => w.bk _ q⟩
theorem ds_continue : DS X (.Continue pos) fun E s => E.ct s := ⟨PS.weak ps_continue fun D σ H ⟨p, O, s, R, q⟩ => q σ O H R .refl, fun s E E' w q => w.ct _ q⟩
/-! ### small statements -/
@[simp] def tEx (te : PTE) : PTS := fun E s => te s fun _ s' => E.nx s'
theorem ds_expr (h : DE X e te) (hs : swapsWith e none pos.line X.env = pure false := by rfl) : DS X (.Expr e pos) (tEx te) :=
  ⟨PS.weak (ps_expr h.pe hs) fun D σ H ⟨p, O, s, R, q⟩ => ⟨p, O, s, R, h.mono _ _ _ (fun d s' q v O' H' R' k' _ => q σ O' H' R' k') q⟩, fun s E E' w q => h.mono _ _ _ (fun d s' => w.nx _) q⟩
@[simp] def tRt (fr : Bool) (te : PTE) : PTS := fun E s => te s fun d s' => E.rt fr d s'
theorem ds_ret (h : DX X fr e te) : DS X (.Return (some e) pos) (tRt fr te) :=
  ⟨PS.weak (ps_ret h.pe) fun D σ H ⟨p, O, s, R, q⟩ => ⟨p, O, s, R, h.mono _ _ _ (fun d s' q v O' H' R' k' a => q v σ O' H' R' k' a) q⟩, fun s E E' w q => h.mono _ _ _ (fun d s' => w.rt _ _ _) q⟩
/-- return of a slot, whichever it is -/
@[simp] def tRtV (i : Nat) : PTS := fun E s => match s.G[i]? with
  | some (.v d) => E.rt false d s
  | some (.m d) => E.rt true d { s with G := s.G.set i .no }
  | _ => False
theorem Rl.drop {i : Nat} (R : Rl K p O σ H s) : Rl K p O σ H { s with G := s.G.set i .no } := by
  have get : ∀ (j : Nat) (S : Sl), (s.G.set i .no)[j]? = some S → S = .no ∨ (i ≠ j ∧ s.G[j]? = some S) := fun j S q => by
    by_cases hj : i = j
    · subst hj
      rw [List.getElem?_set] at q
      simp only [if_true] at q
      split at q
      · injection q with q; exact .inl q.symm
      · cases q
    · rw [List.getElem?_set_ne hj] at q; exact .inr ⟨hj, q⟩
  refine ⟨by rw [List.length_set]; exact R.len, fun j S e => ?_, fun j l d1 d2 c q1 q2 => ?_, R.hand, R.frm, R.dom, R.o0, R.od, R.ob, R.tbo⟩
  · rcases get j S e with z | ⟨_, z⟩
    · subst z; trivial
    · exact R.sl j S z
  · rcases get j _ q1 with z | ⟨_, z⟩
    · cases z
    · rcases get l _ q2 with y | ⟨_, y⟩
      · cases y
      · exact R.inj j l d1 d2 c z y
theorem Rl.move {i : Nat} (R : Rl K p O σ H s) (g : s.G[i]? = some (.m d)) : ∃ a, σ[i]? = some (some (.ref a)) ∧ Lone K p O σ H { s with G := s.G.set i .no } a d := by
  obtain ⟨a, e1, e2, e3, e4, e5⟩ := R.sl i _ g
  refine ⟨a, e1, e2, e3, e4, e5, fun j d' q z => ?_⟩
  have hi : i < s.G.length := (List.getElem?_eq_some_iff.mp g).1
  by_cases hj : i = j
  · subst hj
    have q : (s.G.set i .no)[i]? = some (.m d') := q
    rw [List.getElem?_set_self hi] at q; cases q
  · have q : (s.G.set i .no)[j]? = some (.m d') := q
    rw [List.getElem?_set_ne hj] at q
    exact hj (R.inj i j d d' a g q e1 z)
theorem ds_retV {i : Nat} (h : PE X e (tVar i)) : DS X (.Return (some e) pos) (tRtV i) := by
  refine ⟨PS.weak (ps_ret h) fun D σ H ⟨p, O, s, R, q⟩ => ?_, fun s E E' w q => ?_⟩
  · unfold tRtV at q
    split at q
    · rename_i d g
      obtain ⟨y, e1, e2⟩ := R.sl i _ g
      exact ⟨y, e1, q y σ O H R .refl e2⟩
    · rename_i d g
      obtain ⟨a, e1, l⟩ := R.move g
      exact ⟨_, e1, q _ σ O H R.drop .refl ⟨a, rfl, l⟩⟩
    · exact q.elim
  · unfold tRtV at q ⊢
    split at q
    · exact w.rt _ _ _ q
    · exact w.rt _ _ _ q
    · exact q.elim
@[simp] def tRn : PTS := fun E s => E.rt false .none s
theorem ds_retN : DS X (.Return none pos) tRn := ⟨PS.weak ps_retN fun D σ H ⟨p, O, s, R, q⟩ => q .non σ O H R .refl .non, fun s E E' w q => w.rt _ _ _ q⟩
/-- name = e -/
@[simp] def tAs (fr : Bool) (te : PTE) (i : Nat) : PTS := fun E s => te s fun d s' => E.nx { s' with G := s'.G.set i (Sl.of fr d) }
theorem mono_as {i : Nat} (h : Mono te) : MonoS (tAs fr te i) := fun s E E' w q => h _ _ _ (fun d s' => w.nx _) q
theorem as_read {i : Nat} {D : Ends} (h : Mono te) (q : liftS K (tAs fr te i) D σ H) : tAsg (liftX K fr te) (gName i) D σ H := by
  obtain ⟨p, O, s, R, q⟩ := q
  exact ⟨p, O, s, R, h _ _ _ (fun d s' q v O' H' R' k' a => q _ O' H' (R'.setx a) k') q⟩
theorem ds_set {i : Nat} {x : Str} {pos' : Pos} (hN : X.N.Nodup) (hi : X.N[i]? = some x) (h : DX X fr e te) (hx : Loc X.env.scope x := by exact .inl rfl) (hs : swapsWith e (some (.Name x pos')) pos.line X.env = pure false := by rfl) (hf : X.fn x = true ∨ X.env.scope.names.lookup x = some .local := by first | exact .inl rfl | exact .inr rfl | assumption) :
    DS X (.Assign [.Name x pos'] e pos) (tAs fr te i) := ⟨PS.weak (ps_set hN hi hx h.pe hs hf) fun D σ H q => as_read h.mono q, mono_as h.mono⟩
theorem ds_setLc {i : Nat} {y : Str} {py spos : Pos} {iter elt : Expr} {ifs : List Expr} {scope : Scope} {own : List (Str × Nat)} {ti : PTI} {g : PTG} {tt : PTT} {ws : List Nat} (hc : X.calm = true) (hN : X.N.Nodup) (hy : X.N[i]? = some y) (hyl : X.env.scope.names.lookup y = some .local)
    (hsw : swapsWith (.ListComp elt [⟨tg, iter, ifs, 0⟩] scope pos) (some (.Name y py)) spos.line X.env = pure true) (hi : DI X true tg iter ti) (ok : BlkOk X.N X.env.scope scope own)
    (hg : Blk X scope fun Y => DG Y tg ws g) (ht : Blk X scope fun Y => DTs Y ifs tt) (he : Blk X scope fun Y => DE Y elt te) (hw : ∀ w ∈ ws, w ∈ own.map (·.2)) (hs : ∀ x, foldedSetIterable iter X.env x = pure x := by intro _; rfl) :
    DS X (.Assign [.Name y py] (.ListComp elt [⟨tg, iter, ifs, 0⟩] scope pos) spos) (tAs true (tComp ti g tt te (own.map (·.2))) i) := by
  have h0 := hg X.s_0 X.H_0 0 [] []
  have h1 := ht X.s_0 X.H_0 0 [] []
  have h2 := he X.s_0 X.H_0 0 [] []
  have hm := mono_comp (vs := own.map (·.2)) hi.mono h0.mono h1.mono h2.mono
  refine ⟨PS.weak (ps_setLc (g := liftG X.K ws g) (tt := liftT X.K tt) (te := lift X.K te) hc hN hy hyl hsw hi.pi ok (fun s H C cl fp => (hg s H C cl fp).pg) (fun s H C cl fp => (ht s H C cl fp).pt) (fun s H C cl fp => (he s H C cl fp).pe) hs) fun D σ H q => ?_, mono_as hm⟩
  refine lc_read hi.mono h0.mono h1.mono h2.mono hw ?_
  obtain ⟨p, O, s, R, q⟩ := q
  exact ⟨p, O, s, R, hm _ _ _ (fun d s' q a O' H' R' k' l => q _ O' H' (R'.setx (fr := true) ⟨a, rfl, l⟩) k') q⟩
/-- target = e -/
@[simp] def tUp (te : PTE) (g : PTG) : PTS := fun E s => te s fun d s' => g d s' E.nx
theorem ds_unp {ws : List Nat} {g : PTG} (h : DE X e te) (hg : DG X tg ws g) (hs : swapsWithSole [tg] e pos.line X.env = pure false := by rfl) (hw : swappedStores [tg] e X.env = pure none := by rfl)
    (h1 : (assignEach [tg] X.env).map (·.2) = [assign tg X.env] := by rfl) : DS X (.Assign [tg] e pos) (tUp te g) :=
  ⟨PS.weak (ps_asg h.pe hg.pg hs hw h1) fun D σ H ⟨p, O, s, R, q⟩ => ⟨p, O, s, R, h.mono _ _ _ (fun d s' q v O' H' R' k' a => ⟨p, O', s', d, R', a, hg.mono _ _ _ _ (fun s2 q σ2 R2 _ => q σ2 O' H' R2 k') q⟩) q⟩,
    fun s E E' w q => h.mono _ _ _ (fun d s' => hg.mono _ _ _ _ w.nx) q⟩

/-! ### if, while, for -/
@[simp] def tIfc (c : PTT) (t u : PTS) : PTS := fun E s => c s fun b s' => if b = true then t E s' else u E s'
theorem ds_if {c : Expr} {p1 q1 : List Stmt} {tc : PTT} (hc : DT X c tc) (h : DSs X p1 t) (k : DSs X q1 u) : DS X (.If c p1 q1 pos) (tIfc tc t u) := by
  refine ⟨PS.weak (ps_if hc.pt h.ps k.ps) fun D σ H ⟨p, O, s, R, q⟩ => ⟨p, O, s, R, hc.mono _ _ _ (fun b s' q O' H' R' k' => ?_) q⟩, fun s E E' w q => hc.mono _ _ _ (fun b s' q => ?_) q⟩
  · cases b with
    | true => exact ⟨p, O', s', R', h.mono _ _ _ (endsOf_to k') q⟩
    | false => exact ⟨p, O', s', R', k.mono _ _ _ (endsOf_to k') q⟩
  · cases b with
    | true => exact h.mono _ _ _ w q
    | false => exact k.mono _ _ _ w q
def tWh (c : PTT) (tb : PTS) : PTS := fun E s => ∃ W : Nat → PSt → Prop, (∃ m, W m s) ∧ ∀ m s, W m s → c s fun b s1 => if b = true then tb (E.lp fun s' => ∃ m', m' < m ∧ W m' s') s1 else E.nx s1
theorem ds_while {c : Expr} {tc : PTT} (hp : PassesOwn (model X.prog X.w) X.A X.env X.xe) (hc : DT X c tc) (h : DSs X sts t) : DS X (.While c sts [] pos) (tWh tc t) := by
  refine ⟨PS.weak (ps_while hp hc.pt h.ps) fun D σ H ⟨p, O, s, R, W, ⟨m0, w0⟩, turn⟩ => ?_, fun s E E' w ⟨W, w0, turn⟩ => ⟨W, w0, fun m s1 w1 => hc.mono _ _ _ (fun b s2 q => ?_) (turn m s1 w1)⟩⟩
  · refine ⟨fun m σ1 H1 => ∃ O1 s1, Rl X.K p O1 σ1 H1 s1 ∧ Kp O H O1 H1 ∧ W m s1, ⟨m0, O, s, R, .refl, w0⟩, ?_⟩
    rintro m σ1 H1 ⟨O1, s1, R1, k1, w1⟩
    refine ⟨p, O1, s1, R1, hc.mono _ _ _ (fun b s2 q O2 H2 R2 k2 => ?_) (turn m s1 w1)⟩
    cases b with
    | true =>
      refine ⟨fun σ3 H3 => ∃ m', m' < m ∧ ∃ O3 s3, Rl X.K p O3 σ3 H3 s3 ∧ Kp O H O3 H3 ∧ W m' s3, fun σ' H' ⟨m', lt, w⟩ => ⟨m', lt, w⟩, p, O2, s2, R2, h.mono _ _ _ ?_ q⟩
      have nxt : ∀ s3, (∃ m', m' < m ∧ W m' s3) → goes X.K p O2 H2 (fun σ3 H3 => ∃ m', m' < m ∧ ∃ O3 s3, Rl X.K p O3 σ3 H3 s3 ∧ Kp O H O3 H3 ∧ W m' s3) s3 := fun s3 ⟨m', lt, w⟩ σ3 O3 H3 R3 k3 => ⟨m', lt, O3, s3, R3, k1.trans (k2.trans k3), w⟩
      exact ⟨nxt, fun b d s3 q v σ3 O3 H3 R3 k3 => q v σ3 O3 H3 R3 (k1.trans (k2.trans k3)), fun s3 q σ3 O3 H3 R3 k3 => q σ3 O3 H3 R3 (k1.trans (k2.trans k3)), nxt⟩
    | false => exact q σ1 O2 H2 R2 (k1.trans k2)
  · cases b with
    | true => exact h.mono _ (E.lp _) (E'.lp _) (w.lp fun _ z => z) q
    | false => exact w.nx _ q
/-- the turns of a loop -/
def fRun (g : PTG) (tb : PTS) (E : PEnds) : List PyData → PSt → Prop
  | [], s => E.nx s
  | d :: ds, s => g d s fun s1 => tb (E.lp (fRun g tb E ds)) s1
theorem fRun_mono {g : PTG} {tb : PTS} (hg : ∀ d s Q Q', (∀ s', Q s' → Q' s') → g d s Q → g d s Q') (hb : MonoS tb) {E E' : PEnds} (w : PEnds.Le E E') : ∀ (ds : List PyData) (s : PSt), fRun g tb E ds s → fRun g tb E' ds s
  | [], s, q => w.nx _ q
  | d :: ds, s, q => hg _ _ _ _ (fun s1 => hb _ (E.lp _) (E'.lp _) (w.lp (fRun_mono hg hb w ds))) q
@[simp] def tFo (ti : PTI) (g : PTG) (tb : PTS) : PTS := fun E s => ti s fun items s1 => fRun g tb E items s1
theorem ds_for {iter : Expr} {ti : PTI} {g : PTG} {ws : List Nat} (hp : PassesOwn (model X.prog X.w) X.A X.env X.xe) (hc : X.calm = true) (hi : DI X false tg iter ti) (hg : DG X tg ws g) (h : DSs X sts t) (hs : ∀ x, foldedSetIterable iter X.env x = pure x := by intro _; rfl) :
    DS X (.For tg iter sts [] pos) (tFo ti g t) := by
  refine ⟨PS.weak (ps_for hp hc hi.pi hg.pg h.ps hs) fun D σ H ⟨p, O, s, R, q⟩ => ⟨p, O, s, R, hi.mono _ _ _ (fun items s1 q J O1 H1 R1 k1 it => ?_) q⟩, fun s E E' w q => hi.mono _ _ _ (fun items s1 => fRun_mono hg.mono h.mono w items s1) q⟩
  refine ⟨fun i m σ2 H2 => m = items.length - i ∧ i ≤ items.length ∧ ∃ O2 s2, Rl X.K p O2 σ2 H2 s2 ∧ Kp O1 H1 O2 H2 ∧ fRun g t (endsOf X.K p O H D) (items.drop i) s2, ⟨items.length, by simp, Nat.zero_le _, O1, s1, R1, .refl, q⟩, ?_⟩
  rintro i m σ2 H2 ⟨rfl, hle, O2, s2, R2, k2, q2⟩
  have st : Stand false p O1 H1 O2 H2 := ⟨k2, fun z => nomatch z⟩
  by_cases hlt : i < items.length
  · refine .inr ⟨it.go i O2 H2 st hlt, fun σ3 H3 => ∃ O3 s3, Rl X.K p O3 σ3 H3 s3 ∧ Kp O1 H1 O3 H3 ∧ fRun g t (endsOf X.K p O H D) (items.drop (i + 1)) s3, fun σ3 H3 w => ⟨items.length - (i + 1), by omega, rfl, hlt, w⟩, fun x H3 y => ?_⟩
    obtain ⟨alt, ax⟩ := it.yld i O2 H2 x H3 items[i] st R2.dom (List.getElem?_eq_getElem hlt) y
    have step : Rl X.K p O2 σ2 H3 s2 ∧ Kp O2 H2 O2 H3 := by
      rcases alt with z | ⟨b, o, hb, z⟩
      · subst z; exact ⟨R2, .refl⟩
      · subst z; exact ⟨R2.new hb, Kp.new hb⟩
    obtain ⟨R3, k3⟩ := step
    rw [List.drop_eq_getElem_cons hlt] at q2
    refine ⟨p, O2, s2, items[i], R3, ax, hg.mono _ _ _ _ (fun s4 q4 σ4 R4 _ => ⟨p, O2, s4, R4, h.mono _ _ _ ?_ q4⟩) q2⟩
    have nxt : ∀ s5, fRun g t (endsOf X.K p O H D) (items.drop (i + 1)) s5 → goes X.K p O2 H3 (fun σ3 H3 => ∃ O3 s3, Rl X.K p O3 σ3 H3 s3 ∧ Kp O1 H1 O3 H3 ∧ fRun g t (endsOf X.K p O H D) (items.drop (i + 1)) s3) s5 :=
      fun s5 q5 σ5 O5 H5 R5 k5 => ⟨O5, s5, R5, k2.trans (k3.trans k5), q5⟩
    have back : Kp O H O2 H3 := k1.trans (k2.trans k3)
    exact ⟨nxt, fun b d s5 q v σ5 O5 H5 R5 k5 => q v σ5 O5 H5 R5 (back.trans k5), fun s5 q σ5 O5 H5 R5 k5 => q σ5 O5 H5 R5 (back.trans k5), nxt⟩
  · have ei : i = items.length := by omega
    subst ei
    rw [List.drop_length] at q2
    exact .inl ⟨it.stop _ O2 H2 st (Nat.le_refl _), q2 σ2 O2 H2 R2 (k1.trans k2)⟩
end
end PD
end
section
set_option Elab.async false
set_option linter.all false
set_option maxRecDepth 100000
set_option maxHeartbeats 4000000
/-! PD15: stores in parts, several names at once, the rule for a def. -/
namespace PD
variable [TB]
open PySem PySem.Spec PyProof.Rows L2

section
variable {K : PySem.W.Frag} {X : Cx} {p : Pm} {O O' : Ow} {σ σ' : L2.St} {H H' : Hp} {s s' : PSt} {v : V} {d : PyData} {a : Addr} {e ea eb ec tg o i : Expr} {es : List Expr} {pos ppos : Pos} {st : Stmt} {sts : List Stmt} {t u : PTS} {te ta tb tc ti : PTE} {fr fa fb fc : Bool}

/-! ### o[i] = e -/
theorem PSet.or {t u : TSet} (h : PSet X t) (k : PSet X u) : PSet X (fun o i v H Q => t o i v H Q ∨ u o i v H Q) := fun pins s σ H o i v ov iv w Q I ro ri rv q => by
  rcases q with q | q
  · exact h pins s σ H o i v ov iv w Q I ro ri rv q
  · exact k pins s σ H o i v ov iv w Q I ro ri rv q
def sameK (k k' : PyData) : Prop := keyOf k' = keyOf k ∧ keysOf k' = keysOf k
instance (k k' : PyData) : Decidable (sameK k k') := by unfold sameK; exact inferInstance
/-- d[k] = v -/
def insD (k d : PyData) (ds : List (PyData × PyData)) : List (PyData × PyData) :=
  if (ds.any fun q => decide (sameK k q.1)) = true then ds.map fun q => if sameK k q.1 then (q.1, d) else q else ds ++ [(k, d)]
theorem same_k {k k' : Key} : sameK (keyD k) (keyD k') ↔ k' = k := by
  unfold sameK
  rw [keyOf_keyD, keyOf_keyD]
  exact ⟨fun h => Option.some.inj h.1, fun h => by rw [h]; exact ⟨rfl, rfl⟩⟩
theorem same_t {k k' : List Key} : sameK (keysD k) (keysD k') ↔ k' = k := by
  have q : ∀ k : List Key, keysOf (keysD k) = some k := fun k => keysAll_map k
  unfold sameK
  rw [q, q]
  exact ⟨fun h => Option.some.inj h.2, fun h => by rw [h]; exact ⟨rfl, rfl⟩⟩
theorem AtK.app : ∀ {kvs : List (Key × V)} {ds : List (PyData × PyData)} {k : Key}, AtK K O H kvs ds → At K O H v d → AtK K O H (kvs ++ [(k, v)]) (ds ++ [(keyD k, d)])
  | _, _, _, .nil, h => .cons h .nil
  | _, _, _, .cons h1 h2, h => .cons h1 (AtK.app h2 h)
theorem AtT.app {b : Addr} {u : Value} : ∀ {kvs : List (List Key × Addr × Value)} {ds : List (PyData × PyData)} {k : List Key}, AtT K O H kvs ds → SqTo K O H b (k.map kV) → RelV v u → At K O H v d → AtT K O H (kvs ++ [(k, b, u)]) (ds ++ [(keysD k, d)])
  | _, _, _, .nil, h0, r, h => .cons h0 r h .nil
  | _, _, _, .cons g0 g1 h1 h2, h0, r, h => .cons g0 g1 h1 (AtT.app h2 h0 r h)
theorem AtK.rep : ∀ {kvs : List (Key × V)} {ds : List (PyData × PyData)} {k : Key}, AtK K O H kvs ds → At K O H v d → (kvs.any fun kv => decide (kv.1 = k)) = (ds.any fun q => decide (sameK (keyD k) q.1)) ∧ AtK K O H (kvs.map fun kv => if kv.1 = k then (kv.1, v) else kv) (ds.map fun q => if sameK (keyD k) q.1 then (q.1, d) else q)
  | _, _, _, .nil, h => ⟨rfl, .nil⟩
  | _, _, k, .cons (k := k') h1 h2, h => by
    obtain ⟨e, l⟩ := AtK.rep (k := k) h2 h
    rw [List.any_cons, List.any_cons, List.map_cons, List.map_cons, e]
    by_cases q : k' = k
    · rw [if_pos q, if_pos (same_k.mpr q), decide_eq_true q, decide_eq_true (same_k.mpr q)]
      exact ⟨rfl, .cons h l⟩
    · rw [if_neg q, if_neg fun z => q (same_k.mp z), decide_eq_false q, decide_eq_false fun z => q (same_k.mp z)]
      exact ⟨rfl, .cons h1 l⟩
theorem AtT.rep {u : Value} : ∀ {kvs : List (List Key × Addr × Value)} {ds : List (PyData × PyData)} {k : List Key}, AtT K O H kvs ds → RelV v u → At K O H v d → (atKey kvs k).isSome = (ds.any fun q => decide (sameK (keysD k) q.1)) ∧ AtT K O H (kvs.map (putAt k u)) (ds.map fun q => if sameK (keysD k) q.1 then (q.1, d) else q)
  | _, _, _, .nil, _, h => ⟨rfl, .nil⟩
  | _, _, k, .cons (k := k') g0 g1 h1 h2, r, h => by
    obtain ⟨e, l⟩ := AtT.rep (k := k) h2 r h
    unfold atKey at e ⊢
    unfold putAt at l ⊢
    rw [List.any_cons, List.map_cons, List.map_cons]
    by_cases q : k' = k
    · rw [List.find?_cons_of_pos (by simpa using q), if_pos q, if_pos (same_t.mpr q), decide_eq_true (same_t.mpr q)]
      exact ⟨rfl, .cons g0 r h l⟩
    · rw [List.find?_cons_of_neg (by simpa using q), if_neg q, if_neg fun z => q (same_t.mp z), decide_eq_false fun z => q (same_t.mp z), Bool.false_or]
      exact ⟨e, .cons g0 g1 h1 l⟩
theorem AtK.put {kvs : List (Key × V)} {ds : List (PyData × PyData)} {k : Key} (l : AtK K O H kvs ds) (h : At K O H v d) : AtK K O H (putK kvs k v) (insD (keyD k) d ds) := by
  unfold putK insD
  rw [(l.rep (k := k) h).1]
  split
  · exact (l.rep h).2
  · exact l.app h
theorem AtT.put {b : Addr} {u : Value} {kvs : List (List Key × Addr × Value)} {ds : List (PyData × PyData)} {k : List Key} (l : AtT K O H kvs ds) (h0 : SqTo K O H b (k.map kV)) (r : RelV v u) (h : At K O H v d) : AtT K O H (storedH kvs k b u) (insD (keysD k) d ds) := by
  unfold storedH insD
  rw [(l.rep (k := k) r h).1]
  split
  · exact (l.rep r h).2
  · exact l.app h0 r h
theorem storedH_len {kvs : List (List Key × Addr × Value)} {k : List Key} {b : Addr} {u : Value} : (storedH kvs k b u).length ≤ kvs.length + 1 := by
  unfold storedH
  split
  · rw [List.length_map]; omega
  · simp
/-- d[t] = v, t a tuple -/
def rSetX (K : PySem.W.Frag) : V → V → V → Hp → (Hp → Prop) → Prop := fun o i v H Q => ∃ a xs k b, o = .ref a ∧ i = .ref b ∧ H a = some (DxO a xs) ∧ (∀ q ∈ xs, SqT K H q.2.1 (q.1.map kV)) ∧ SqT K H b (k.map kV) ∧ xs.length < sizeLine ∧ ∀ u, RelV v u → Q (upd H a (DxO a (storedH xs k b u)))
theorem set_dx (hu : X.A.units + 1 < cLine) (hW : SameW X) : PSet X (rSetX X.K) := by
  rintro pins s σ H o i v ov iv w Q I ro ri rv ⟨a, xs, k, b, rfl, rfl, e, ks, eb, hl, q⟩
  cases ro; cases ri
  obtain ⟨z, hd, dd⟩ := dx_dict hW I (.inl e) ks
  refine wpAny_setItem_heap (hsz := z) (tupleKind_room_in1 hu) (dx_is I eb) dd fun h' dd' hs => ?_
  have he : ∃ o, h'.get? a = some o := let ⟨o, _, _, h1, _⟩ := dd'; ⟨o, h1⟩
  exact ⟨_, d_write I (by rw [e]; exact True.intro) hs he (dx_obj hW (Nat.le_trans storedH_len hl) hd dd'), q w rv⟩
/-- a place's content of slot n -/
@[simp] def putS (s : PSt) (n : Nat) (k d : PyData) (Q : PSt → Prop) : Prop := match s.G[n]? with
  | some (.m (.list ds)) => ∃ j m, k = .int j ∧ ixN ds.length j = some m ∧ Q { s with G := s.G.set n (.m (.list (ds.set m d))) }
  | some (.m (.dict ((.bool t, .none) :: ds))) => keyFits t k = true ∧ ds.length < sizeLine ∧ Q { s with G := s.G.set n (.m (dicD t (insD k d ds))) }
  | some .h => ∃ j m, k = .int j ∧ ixN s.hd.length j = some m ∧ Q { s with hd := s.hd.set m d }
  | _ => False
theorem AtK.length : ∀ {kvs : List (Key × V)} {ds : List (PyData × PyData)}, AtK K O H kvs ds → kvs.length = ds.length
  | _, _, .nil => rfl
  | _, _, .cons _ t => by rw [List.length_cons, List.length_cons, AtK.length t]
theorem AtT.length : ∀ {kvs : List (List Key × Addr × Value)} {ds : List (PyData × PyData)}, AtT K O H kvs ds → kvs.length = ds.length
  | _, _, .nil => rfl
  | _, _, .cons _ _ _ t => by rw [List.length_cons, List.length_cons, AtT.length t]
theorem mono_putS {n : Nat} {k : PyData} {Q Q' : PSt → Prop} (w : ∀ s, Q s → Q' s) (q : putS s n k d Q) : putS s n k d Q' := by
  unfold putS at q ⊢
  split at q
  · obtain ⟨j, m, e1, e2, q⟩ := q
    exact ⟨j, m, e1, e2, w _ q⟩
  · exact ⟨q.1, q.2.1, w _ q.2.2⟩
  · obtain ⟨j, m, e1, e2, q⟩ := q
    exact ⟨j, m, e1, e2, w _ q⟩
  · exact q.elim
/-- the store, read -/
theorem put_read {n : Nat} {k : PyData} {ov kv : V} {Q : Hp → Prop} (R : Rl K p O σ H s) (eo : σ[n]? = some (some ov)) (ak : At K O H kv k) (av : At K O H v d) (q : putS s n k d fun s' => ∀ O' H', Rl K p O' σ H' s' → Kp O H O' H' → Q H') :
    rSetL ov kv v H Q ∨ rSetD ov kv v H Q ∨ rSetX K ov kv v H Q := by
  unfold putS at q
  split at q
  · rename_i ds g
    obtain ⟨j, m, e1, e2, q⟩ := q
    subst e1
    cases ak
    obtain ⟨b, xs, f1, f2, f3, f4⟩ := R.mlist g
    rw [eo] at f1
    cases f1
    have k2 : Kp O H O (upd H b (.lst (xs.set m v))) := ⟨fun c u e n => by rw [upd_ne (fun z => n (by rw [z]; exact f4))]; exact e, fun _ n _ => n⟩
    obtain ⟨R2, k3⟩ := R.put (d' := .list (ds.set m d)) (o := .lst (xs.set m v)) g eo (.lst upd_same ((f3.set m av).to k2))
    exact .inl ⟨b, xs, j, m, rfl, rfl, f2, by rw [f3.len]; exact e2, q O _ R2 k3⟩
  · rename_i t ds g
    obtain ⟨e1, e2, q⟩ := q
    obtain ⟨b, f1, f2, f3, f4, f5⟩ := R.sl n _ g
    rw [eo] at f1
    cases f1
    right
    cases f5 with
    | dicK h1 h2 =>
      rename_i kvs
      obtain ⟨k', rfl⟩ := keyOf_some (show (keyOf k).isSome = true from e1)
      cases ak.key
      have k2 : Kp O H O (upd H b (.dK (putK kvs k' v))) := ⟨fun c u e n => by rw [upd_ne (fun z => n (by rw [z]; exact f2))]; exact e, fun _ n _ => n⟩
      obtain ⟨R2, k3⟩ := R.put (d' := dicD false (insD (keyD k') d ds)) (o := .dK (putK kvs k' v)) g eo (.dicK upd_same ((h2.put av).to k2))
      exact .inl ⟨b, _, rfl, DPut.k h1 (by rw [h2.length]; exact e2), q O _ R2 k3⟩
    | dicT h1 h2 =>
      rename_i kvs
      obtain ⟨k', rfl⟩ := keysOf_some (show (keysOf k).isSome = true from e1)
      obtain ⟨c, rfl, eb⟩ := AtE.keysV (.inl ak)
      refine .inr ⟨b, kvs, k', c, rfl, rfl, h1, h2.keysAt, eb.sq, by rw [h2.length]; exact e2, fun u ru => ?_⟩
      have k2 : Kp O H O (upd H b (DxO b (storedH kvs k' c u))) := ⟨fun c u e n => by rw [upd_ne (fun z => n (by rw [z]; exact f2))]; exact e, fun _ n _ => n⟩
      obtain ⟨R2, k3⟩ := R.put (d' := dicD true (insD (keysD k') d ds)) (o := DxO b (storedH kvs k' c u)) g eo (.dicT upd_same ((h2.put eb ru av).to k2))
      exact q O _ R2 k3
  · rename_i g
    obtain ⟨j, m, e1, e2, q⟩ := q
    subst e1
    cases ak
    obtain ⟨b, f1, f2⟩ := R.sl n _ g
    rw [eo] at f2
    cases f2
    obtain ⟨f3, xs, f4, f5⟩ := R.hand b f1
    obtain ⟨R2, k3⟩ := R.handPut f1 (f5.set m av)
    exact .inl ⟨b, xs, j, m, rfl, rfl, f4, by rw [f5.len]; exact e2, q O _ R2 k3⟩
  · exact q.elim
@[simp] def tPut (te : PTE) (n : Nat) (ti : PTE) : PTS := fun E s => te s fun d s1 => (∃ S, s1.G[n]? = some S ∧ ((∃ d, S = .m d) ∨ S = .h)) ∧ ti s1 fun k s2 => putS s2 n k d E.nx
theorem Rl.has {n : Nat} (R : Rl K p O σ H s) (h : ∃ S, s.G[n]? = some S ∧ ((∃ d, S = .m d) ∨ S = .h)) : ∃ v, σ[n]? = some (some v) := by
  obtain ⟨S, g, z⟩ := h
  have q := R.sl n S g
  rcases z with ⟨d, z⟩ | z <;> subst z
  · obtain ⟨b, e, _⟩ := q; exact ⟨_, e⟩
  · obtain ⟨b, _, e⟩ := q; exact ⟨_, e⟩
theorem ds_put {n : Nat} (hu : X.A.units + 1 < cLine) (hW : SameW X) (he : DE X e te) (ho : PE X o (tVar n)) (hi : DE X i ti) (hs : swapsWithSole [.Subscript o i ppos] e pos.line X.env = pure false := by rfl) (hw : swappedStores [.Subscript o i ppos] e X.env = pure none := by rfl)
    (h1 : (assignEach [.Subscript o i ppos] X.env).map (·.2) = [assign (.Subscript o i ppos) X.env] := by rfl) (ha : ∀ v, assign (.Subscript o i ppos) X.env v = (do
      let ov ← holding [v] (eval o X.env)
      let iv ← holding [v, ov] (eval i X.env)
      standAt ppos
      holding [v, ov, iv] (setItem ov iv v)
      release [v, ov, iv] []) := by intro _; rfl) : DS X (.Assign [.Subscript o i ppos] e pos) (tPut te n ti) := by
  refine ⟨PS.weak (ps_asg he.pe (pg_sub ho hi.pe (PSet.or set_list (PSet.or (set_dict hu) (set_dx hu hW))) ha) hs hw h1) fun D σ H ⟨p, O, s, R, q⟩ => ⟨p, O, s, R, he.mono _ _ _ (fun d s1 ⟨hh, q1⟩ v O1 H1 R1 k1 av => ?_) q⟩, fun s E E' w q => he.mono _ _ _ (fun d s1 ⟨hh, q⟩ => ⟨hh, hi.mono _ _ _ (fun k s2 => mono_putS w.nx) q⟩) q⟩
  obtain ⟨ov, eo⟩ := R1.has hh
  exact ⟨ov, eo, p, O1, s1, R1, hi.mono _ _ _ (fun k s2 q2 kv O2 H2 R2 k2 ak => put_read R2 eo ak (av.to k2) (mono_putS (fun s3 q3 O3 H3 R3 k3 => q3 σ O3 H3 R3 (k1.trans (k2.trans k3))) q2)) q1⟩

/-! ### a, b = x, y -/
inductive Vals' (K : PySem.W.Frag) (p : Pm) (O : Ow) (σ : L2.St) (H : Hp) (s : PSt) : List Bool → List V → List PyData → Prop
  | nil : Vals' K p O σ H s [] [] []
  | cons {f : Bool} {v : V} {d : PyData} {fs : List Bool} {vs : List V} {ds : List PyData} : Val K p O σ H s f v d → (f = true → ∀ i : Nat, fs[i]? = some true → vs[i]? ≠ some v) → Vals' K p O σ H s fs vs ds → Vals' K p O σ H s (f :: fs) (v :: vs) (d :: ds)
def liftM (K : PySem.W.Frag) (fs : List Bool) (t : PTA) : TA := fun σ H QV => ∃ p O s, Rl K p O σ H s ∧ t s fun ds s' => ∀ vs O' H', Rl K p O' σ H' s' → Kp O H O' H' → Vals' K p O' σ H' s' fs vs ds → QV vs H'
structure DM (X : Cx) (fs : List Bool) (es : List Expr) (t : PTA) : Prop where
  pa : PA X es (liftM X.K fs t)
  mono : MonoA t
@[simp] def tMn : PTA := fun s Q => Q [] s
theorem dm_nil : DM X [] [] tMn := ⟨PA.weak pa_nil fun σ H Q ⟨p, O, s, R, q⟩ => q [] O H R .refl .nil, fun s Q Q' w q => w _ _ q⟩
@[simp] def tMc (fr : Bool) (t : PTE) (u : PTA) : PTA := fun s Q => t s fun x s1 => if fr = true then u ⟨s1.G.map Sl.inn, s1.hd⟩ fun ds s2 => Q (x :: ds) ⟨s1.G, s2.hd⟩ else u s1 fun ds s2 => Q (x :: ds) s2
theorem Val.to {f : Bool} (R : Rl K p O σ H s) (k : Kp O H O' H') (ho : ∀ a, O a → O' a) (st : ∀ b o, H b = some o → ¬ p.ex b → H' b = some o) (hg : ∀ (i : Nat) (d' : PyData), s'.G[i]? = some (.m d') → s.G[i]? = some (.m d')) (h : Val K p O σ H s f v d) : Val K p O' σ H' s' f v d := by
  cases f with
  | false => exact At.to k h
  | true =>
    obtain ⟨a, rfl, l1, l2, l3, l4, l5⟩ := h
    refine ⟨a, rfl, ho a l1, l2, l3, l4.to k ?_, fun i d' g => l5 i d' (hg i d' g)⟩
    cases e : H a with
    | none => exact absurd e l4.some
    | some o => exact st a o e l3
/-- what stands through a part, new behind it -/
theorem Vals'.back {fs : List Bool} {vs : List V} {ds : List PyData} {hd : List PyData} (R : Rl K p O σ H s) (R' : Rl K ⟨p.ha, H, O⟩ O' σ H' s') (h : Vals' K ⟨p.ha, H, O⟩ O' σ H' s' fs vs ds) : Vals' K p O' σ H' ⟨s.G, hd⟩ fs vs ds ∧ ∀ b, H b ≠ none → ∀ (i : Nat), fs[i]? = some true → vs[i]? ≠ some (.ref b) := by
  induction h with
  | nil => exact ⟨.nil, fun b _ i e => by simp at e⟩
  | cons h1 h2 h3 ih =>
    rename_i f v d fs vs ds
    refine ⟨.cons ?_ h2 ih.1, fun b hb i e z => ?_⟩
    · cases f with
      | false => exact h1
      | true =>
        obtain ⟨a, rfl, l1, l2, l3, l4, l5⟩ := h1
        obtain ⟨f1, f2, f3⟩ := R.fresh (show H a = none from l2)
        exact ⟨a, rfl, l1, f1, l3, l4, f3⟩
    · cases i with
      | zero =>
        simp only [List.getElem?_cons_zero, Option.some.injEq] at e z
        subst e
        obtain ⟨a, ev, l1, l2, _⟩ := h1
        rw [z] at ev
        cases ev
        exact hb l2
      | succ n =>
        simp only [List.getElem?_cons_succ] at e z
        exact ih.2 b hb n e z
end
end PD
end
section
set_option Elab.async false
set_option linter.all false
set_option maxRecDepth 100000
set_option maxHeartbeats 4000000
/-! PD16: several names at once; the rule for a def. -/
namespace PD
variable [TB]
open PySem PySem.Spec PyProof.Rows L2

section
variable {K : PySem.W.Frag} {X : Cx} {p : Pm} {O O' : Ow} {σ σ' : L2.St} {H H' : Hp} {s s' : PSt} {v w : V} {d : PyData} {a : Addr} {e ea eb ec tg o i : Expr} {es : List Expr} {pos ppos : Pos} {st : Stmt} {sts : List Stmt} {t u : PTS} {te ta tb tc ti : PTE} {fr fa fb fc : Bool}
theorem dm_cons {fs : List Bool} {u : PTA} (h : DX X fr e te) (k : DM X fs es u) (hs : starEach (e :: es) X.env = (false, eval e X.env) :: starEach es X.env := by rfl) : DM X (fr :: fs) (e :: es) (tMc fr te u) := by
  refine ⟨PA.weak (pa_cons h.pe k.pa hs) fun σ H QV ⟨p, O, s, R, q⟩ => ⟨p, O, s, R, h.mono _ _ _ (fun x s1 q1 v O1 H1 R1 k1 av => ?_) q⟩, fun s Q Q' w q => h.mono _ _ _ (fun x s1 q1 => ?_) q⟩
  · cases fr with
    | false => exact ⟨p, O1, s1, R1, k.mono _ _ _ (fun ds s2 q2 vs O2 H2 R2 k2 l2 => q2 (v :: vs) O2 H2 R2 (k1.trans k2) (.cons (At.to k2 av) (fun z => nomatch z) l2)) q1⟩
    | true =>
      refine ⟨⟨p.ha, H1, O1⟩, O1, ⟨s1.G.map Sl.inn, s1.hd⟩, R1.into [], k.mono _ _ _ (fun ds s2 q2 vs O2 H2 R2 k2 l2 => ?_) q1⟩
      have z := l2.back (hd := s2.hd) R1 R2
      refine q2 (v :: vs) O2 H2 (R1.back R2 k2) (k1.trans k2) (.cons (Val.to R1 k2 R2.o0 (fun b o e n => R2.frm b o e n) (fun _ _ g => g) av) (fun _ i e => ?_) z.1)
      obtain ⟨b, rfl, l⟩ := av
      exact z.2 b l.2.2.2.1.some i e
  · cases fr with
    | false => exact k.mono _ _ _ (fun ds s2 => w _ _) q1
    | true => exact k.mono _ _ _ (fun ds s2 => w _ _) q1
theorem Val.setx {n : Nat} {x y : PyData} (h : Val K p O σ H s fb w y) (ne : fa = true → fb = true → w ≠ v) : Val K p O (σ.set n (some v)) H { s with G := s.G.set n (Sl.of fa x) } fb w y := by
  cases fb with
  | false => exact h
  | true =>
    obtain ⟨b, rfl, l1, l2, l3, l4, l5⟩ := h
    refine ⟨b, rfl, l1, l2, l3, l4, fun m d' g z => ?_⟩
    by_cases hj : n = m
    · subst hj
      have g : (s.G.set n (Sl.of fa x))[n]? = some (.m d') := g
      rw [List.getElem?_set] at g z
      simp only [if_true] at g z
      split at g
      · split at z
        · cases fa with
          | false => cases g
          | true =>
            injection z with z
            injection z with z
            exact ne rfl rfl z.symm
        · cases z
      · cases g
    · have g : (s.G.set n (Sl.of fa x))[m]? = some (.m d') := g
      rw [List.getElem?_set_ne hj] at g z
      exact l5 m d' g z
@[simp] def tPr2 (fa fb : Bool) (i j : Nat) (t : PTA) : PTS := fun E s => t s fun ds s' => ∃ x y, ds = [x, y] ∧ E.nx { s' with G := (s'.G.set i (Sl.of fa x)).set j (Sl.of fb y) }
theorem ds_par2 {i j : Nat} {x y : Str} {a b : Expr} {t : PTA} {px py pt : Pos} {kt k2 pt2} (hc : X.calm = true) (hN : X.N.Nodup) (hi : X.N[i]? = some x) (hj : X.N[j]? = some y) (h : DM X [fa, fb] [a, b] t) (hij : i ≠ j := by decide)
    (hx : X.env.scope.names.lookup x = some .local := by rfl) (hy : X.env.scope.names.lookup y = some .local := by rfl)
    (hw : swappedStores [.Tuple [.Name x px, .Name y py] kt pt] (.Tuple [a, b] k2 pt2) X.env = pure (some [x, y]) := by rfl)
    (hs : swapsWithSole [.Tuple [.Name x px, .Name y py] kt pt] (.Tuple [a, b] k2 pt2) pos.line X.env = pure false := by rfl) :
    DS X (.Assign [.Tuple [.Name x px, .Name y py] kt pt] (.Tuple [a, b] k2 pt2) pos) (tPr2 fa fb i j t) := by
  refine ⟨PS.weak (ps_par hc hN hi hj hij hx hy h.pa hw hs) fun D σ H ⟨p, O, s, R, q⟩ => ⟨p, O, s, R, h.mono _ _ _ (fun ds s' ⟨x, y, ed, q⟩ vs O' H' R' k' l => ?_) q⟩, fun s E E' w q => h.mono _ _ _ (fun ds s' ⟨x, y, ed, q⟩ => ⟨x, y, ed, w.nx _ q⟩) q⟩
  subst ed
  cases l with
  | cons v1 n1 l =>
    cases l with
    | cons v2 n2 l =>
      cases l
      rename_i v w
      exact ⟨v, w, rfl, q _ O' H' ((R'.setx v1).setx (v2.setx fun f1 f2 z => n1 f1 0 (by rw [f2]; rfl) (by rw [← z]; rfl))) k'⟩
@[simp] def tPr3 (fa fb fc : Bool) (i j l : Nat) (t : PTA) : PTS := fun E s => t s fun ds s' => ∃ x y z, ds = [x, y, z] ∧ E.nx { s' with G := ((s'.G.set i (Sl.of fa x)).set j (Sl.of fb y)).set l (Sl.of fc z) }
theorem ds_par3 {i j l : Nat} {x y z : Str} {a b c : Expr} {t : PTA} {px py pz pt : Pos} {kt k2 pt2} (hc : X.calm = true) (hN : X.N.Nodup) (hi : X.N[i]? = some x) (hj : X.N[j]? = some y) (hl : X.N[l]? = some z) (h : DM X [fa, fb, fc] [a, b, c] t) (hij : i ≠ j := by decide) (hil : i ≠ l := by decide) (hjl : j ≠ l := by decide)
    (hx : X.env.scope.names.lookup x = some .local := by rfl) (hy : X.env.scope.names.lookup y = some .local := by rfl) (hz : X.env.scope.names.lookup z = some .local := by rfl)
    (hw : swappedStores [.Tuple [.Name x px, .Name y py, .Name z pz] kt pt] (.Tuple [a, b, c] k2 pt2) X.env = pure (some [x, y, z]) := by rfl)
    (hs : swapsWithSole [.Tuple [.Name x px, .Name y py, .Name z pz] kt pt] (.Tuple [a, b, c] k2 pt2) pos.line X.env = pure false := by rfl) :
    DS X (.Assign [.Tuple [.Name x px, .Name y py, .Name z pz] kt pt] (.Tuple [a, b, c] k2 pt2) pos) (tPr3 fa fb fc i j l t) := by
  refine ⟨PS.weak (ps_par3 hc hN hi hj hl hij hil hjl hx hy hz h.pa hw hs) fun D σ H ⟨p, O, s, R, q⟩ => ⟨p, O, s, R, h.mono _ _ _ (fun ds s' ⟨x, y, z, ed, q⟩ vs O' H' R' k' l => ?_) q⟩, fun s E E' w q => h.mono _ _ _ (fun ds s' ⟨x, y, z, ed, q⟩ => ⟨x, y, z, ed, w.nx _ q⟩) q⟩
  subst ed
  cases l with
  | cons v1 n1 l =>
    cases l with
    | cons v2 n2 l =>
      cases l with
      | cons v3 n3 l =>
        cases l
        rename_i v w x
        refine ⟨v, w, x, rfl, q _ O' H' (((R'.setx v1).setx (v2.setx fun f1 f2 z => n1 f1 0 (by rw [f2]; rfl) (by rw [← z]; rfl))).setx ?_) k'⟩
        exact (v3.setx fun f1 f2 z => n1 f1 1 (by rw [f2]; rfl) (by rw [← z]; rfl)).setx fun f1 f2 z => n2 f1 0 (by rw [f2]; rfl) (by rw [← z]; rfl)

/-! ### a def -/
@[simp] def AV.sl : AV → Sl
  | .d x => .v x
  | .hand => .h
@[simp] def initG (N : List Str) (avs : List AV) : List Sl := avs.map AV.sl ++ List.replicate (N.length - avs.length) .no
theorem AvL.length {ha : Option Addr} : ∀ {vs : List V} {avs : List AV}, AvL K O ha H vs avs → vs.length = avs.length
  | _, _, .nil => rfl
  | _, _, .d _ t => by rw [List.length_cons, List.length_cons, AvL.length t]
  | _, _, .hand _ t => by rw [List.length_cons, List.length_cons, AvL.length t]
theorem AvL.get {ha : Option Addr} : ∀ {vs : List V} {avs : List AV} {i : Nat} {x : AV}, AvL K O ha H vs avs → avs[i]? = some x → ∃ v, vs[i]? = some v ∧ ((∃ d, x = .d d ∧ At K O H v d) ∨ (x = .hand ∧ ∃ a, ha = some a ∧ v = .ref a))
  | _, _, _, _, .nil, e => by simp at e
  | _, _, 0, _, .d h _, e => by simp at e; subst e; exact ⟨_, rfl, .inl ⟨_, rfl, h⟩⟩
  | _, _, 0, _, .hand h _, e => by simp at e; subst e; exact ⟨_, rfl, .inr ⟨rfl, _, h, rfl⟩⟩
  | _, _, i + 1, x, .d _ t, e => by
    obtain ⟨v, h1, h2⟩ := AvL.get (i := i) (x := x) t (by simpa using e)
    exact ⟨v, by simpa using h1, h2⟩
  | _, _, i + 1, x, .hand _ t, e => by
    obtain ⟨v, h1, h2⟩ := AvL.get (i := i) (x := x) t (by simpa using e)
    exact ⟨v, by simpa using h1, h2⟩
theorem Rl.start {N : List Str} {vs : List V} {avs : List AV} {hd : List PyData} {ha : Option Addr} (hh : HandOk K O ha H hd) (hd0 : ∀ a, O a → NT (H a)) (l : AvL K O ha H vs avs) : Rl K ⟨ha, H, O⟩ O (L2.start N vs) H ⟨initG N avs, hd⟩ := by
  have get : ∀ (i : Nat) (S : Sl), (initG N avs)[i]? = some S → S = .no ∨ ∃ x, avs[i]? = some x ∧ S = x.sl := fun i S e => by
    unfold initG at e
    rw [List.getElem?_append] at e
    split at e
    · rw [List.getElem?_map] at e
      cases q : avs[i]? with
      | none => rw [q] at e; cases e
      | some x => rw [q] at e; injection e with e; exact .inr ⟨x, rfl, e.symm⟩
    · rw [List.getElem?_replicate] at e
      split at e
      · injection e with e; exact .inl e.symm
      · cases e
  refine ⟨?_, fun i S e => ?_, fun i j d d' c e1 _ => ?_, hh.hand, fun _ _ e _ => e, hd0, fun _ z => z, fun a z => (hd0 a z).ne, fun _ z _ => z, hh.tbo⟩
  · show (initG N avs).length = (L2.start N vs).length
    unfold initG L2.start
    rw [List.length_append, List.length_append, List.length_map, List.length_map, List.length_replicate, List.length_replicate, l.length]
  · rcases get i S e with z | ⟨x, e1, e2⟩
    · subst z; trivial
    · obtain ⟨v, f1, f2⟩ := l.get e1
      have hi : i < vs.length := (List.getElem?_eq_some_iff.mp f1).1
      have f3 : (L2.start N vs)[i]? = some (some v) := by
        unfold L2.start
        rw [List.getElem?_append_left (by rw [List.length_map]; exact hi), List.getElem?_map, f1]
        rfl
      rcases f2 with ⟨d, ex, at1⟩ | ⟨ex, b, hb, ev⟩
      · subst ex e2; exact ⟨v, f3, at1⟩
      · subst ex e2 ev; exact ⟨b, hb, f3⟩
  · rcases get i _ e1 with z | ⟨x, _, z⟩
    · cases z
    · cases x <;> cases z
@[simp] def fnEnds (fr : Bool) (Q : PyData → List PyData → Prop) : PEnds :=
  ⟨fun s => fr = false ∧ Q .none s.hd, fun f d s => (fr = true → f = true) ∧ Q d s.hd, fun _ => False, fun _ => False⟩
theorem def_read {N : List Str} {vs : List V} {avs : List AV} {hd : List PyData} {ha : Option Addr} {Q : VK} (ht : MonoS t) (hh : HandOk K O ha H hd) (hd0 : ∀ a, O a → NT (H a)) (l : AvL K O ha H vs avs)
    (q : t (fnEnds fr fun d hd' => ∀ v H', Fram ha H H' → HandOk K O ha H' hd' → (if fr = true then ∃ a, v = .ref a ∧ H a = none ∧ Own K (O.with a) H' a d ∧ HandOk K (O.with a) ha H' hd' else At K O H' v d) → Q v H') ⟨initG N avs, hd⟩) :
    liftS K t { nx := fun _ H' => Q .non H', rt := Q } (L2.start N vs) H := by
  have less : ∀ {O' : Ow} {H' : Hp}, (∀ a, O a → O' a) → Kp O' H' O H' := fun h => Kp.less h
  have hok : ∀ {O' σ' H' s'}, Rl K ⟨ha, H, O⟩ O' σ' H' s' → HandOk K O ha H' s'.hd := fun {O' σ' H' s'} R => ⟨fun a e => by
    obtain ⟨h1, xs, h2, h3⟩ := R.hand a e
    exact ⟨(hh.hand a e).1, xs, h2, h3.to (less R.o0)⟩, ⟨hh.tbo.own, R.tbo.tab⟩⟩
  refine ⟨⟨ha, H, O⟩, O, ⟨initG N avs, hd⟩, Rl.start hh hd0 l, ht _ (fnEnds fr _) _ ⟨fun s' ⟨ef, q⟩ σ' O' H' R k => ?_, fun f d s' ⟨ef, q⟩ v σ' O' H' R k a => ?_, fun _ z => z.elim, fun _ z => z.elim⟩ q⟩
  · subst ef
    exact q .non H' R.frm (hok R) .non
  · cases fr with
    | false =>
      refine q v H' R.frm (hok R) ?_
      cases f with
      | false => exact At.to (less R.o0) a
      | true =>
        obtain ⟨b, rfl, l1, l2, l3, l4, l5⟩ := a
        exact l4.free (fun z => R.od b z l2) R.o0
    | true =>
      cases f with
      | false => cases ef rfl
      | true =>
        obtain ⟨b, rfl, l1, l2, l3, l4, l5⟩ := a
        have k2 : Kp O' H' (O.with b) H' := Kp.less fun c z => by
          rcases z with z | z
          · exact R.o0 c z
          · rw [z]; exact l1
        refine q _ H' R.frm (hok R) ⟨b, rfl, l2, l4.to k2 rfl, fun a e => ?_, ⟨fun x hx => .inl (hh.tbo.own x hx), R.tbo.tab⟩⟩
        obtain ⟨h1, xs, h2, h3⟩ := R.hand a e
        exact ⟨.inl (hh.hand a e).1, xs, h2, h3.to k2⟩
end

section
variable {P : Program} {w : World} {K : PySem.W.Frag} {mg : Str → Option Value} {base : Heap}
theorem fnD {x qual : Str} {st : Stmt} {f : Addr} {fd : FuncData} {N ps : List Str} {k : Nat} {fr : Bool} {Fs : FSpec} (F : L2.Fun K x qual st f fd) (S : FnScope N ps (defScope st)) (len : ∀ avs hd Q E, Fs avs hd Q E → avs.length = ps.length)
    (hbody : ∀ (cdv : Value) (A : Around) (outer : List Env) (s : Shared) (H : Hp) (E : XK), RoomG k (A.deeper (envOfC qual (defScope st) s.heap.objs.size f cdv)) →
      ∃ t, DSs (cxOf CX0 P w K mg base N qual (defScope st) f cdv A outer s H E).nox (defBody st) t ∧ ∀ avs hd Q E, Fs avs hd Q E → t (fnEnds fr Q) ⟨initG N avs, hd⟩) : FnG P w K mg base CX0 (k + 1) f fd ps (spD K fr Fs) := by
  refine Fun.okG F S (fun vs H Q E ⟨O, ha, avs, hd, _, _, l, q⟩ => by rw [l.length]; exact len _ _ _ _ q) fun cdv A outer s H vs Q E hr ⟨O, ha, avs, hd, hh, hd0, l, q⟩ => ?_
  obtain ⟨t, h, k⟩ := hbody cdv A outer s H E hr
  exact ⟨_, h.ps.nox, def_read h.mono hh hd0 l (k _ _ _ _ q)⟩
end
end PD
end
section
set_option Elab.async false
set_option linter.all false
set_option maxRecDepth 100000
set_option maxHeartbeats 4000000
/-! PD17: what was left: the built-ins' names, a negative number, list(range(n)), xs[::-1]. -/
namespace PD
variable [TB]
open PySem PySem.Spec PyProof.Rows L2

theorem bt_len : bootBuiltins "len" = some (.builtin "len") := by decide +kernel
theorem bt_all : bootBuiltins "all" = some (.builtin "all") := by decide +kernel
theorem bt_any : bootBuiltins "any" = some (.builtin "any") := by decide +kernel
theorem bt_sum : bootBuiltins "sum" = some (.builtin "sum") := by decide +kernel
theorem bt_abs : bootBuiltins "abs" = some (.builtin "abs") := by decide +kernel
theorem bt_min : bootBuiltins "min" = some (.builtin "min") := by decide +kernel
theorem bt_max : bootBuiltins "max" = some (.builtin "max") := by decide +kernel
theorem bt_sorted : bootBuiltins "sorted" = some (.builtin "sorted") := by decide +kernel
theorem bt_isinstance : bootBuiltins "isinstance" = some (.builtin "isinstance") := by decide +kernel
theorem bt_int : bootBuiltins "int" = some (.type "int") := by decide +kernel
theorem bt_str : bootBuiltins "str" = some (.type "str") := by decide +kernel
theorem bt_bool : bootBuiltins "bool" = some (.type "bool") := by decide +kernel
theorem bt_list : bootBuiltins "list" = some (.type "list") := by decide +kernel
theorem bt_tuple : bootBuiltins "tuple" = some (.type "tuple") := by decide +kernel
theorem bt_dict : bootBuiltins "dict" = some (.type "dict") := by decide +kernel

section
variable {K : PySem.W.Frag} {X : Cx} {p : Pm} {O O' : Ow} {σ σ' : L2.St} {H H' : Hp} {s s' : PSt} {v w : V} {d : PyData} {a : Addr} {e ea eb ec tg o i : Expr} {es : List Expr} {pos ppos : Pos} {te ta tb tc ti : PTE}
theorem hu64 {k : Nat} {A : Around} (h : RoomG k A) : A.units + 64 < cLine := by have := h.r.un; omega
theorem hu1_ {k : Nat} {A : Around} (h : RoomG k A) : A.units + 1 < cLine := by have := h.r.un; omega
@[simp] def tNg (t : PTE) : PTE := fun s Q => t s fun d s' => ∃ i, d = .int i ∧ Q (.int (-i)) s'
theorem de_neg (h : DE X e te) : DE X (.UnaryOp .USub e pos) (tNg te) :=
  ⟨PE.weak (pe_un un_neg h.pe) fun σ H Q ⟨p, O, s, R, q⟩ => ⟨p, O, s, R, h.mono _ _ _ (fun d s' ⟨i, ed, q⟩ v O' H' R' k a => by
      subst ed
      cases a
      exact ⟨i, rfl, q _ O' H' R' k (.int _)⟩) q⟩,
    fun s Q Q' w q => h.mono _ _ _ (fun d s' ⟨i, ed, q⟩ => ⟨i, ed, w _ _ q⟩) q⟩
@[simp] def tLr (t : PTE) : PTE := fun s Q => t s fun d s' => ∃ n : Int, d = .int n ∧ 0 ≤ n ∧ n ≤ 16777216 ∧ Q (.list (rngD 0 n.toNat)) s'
theorem atL_rg (K : PySem.W.Frag) (O : Ow) (H : Hp) (a b : Int) : AtL K O H (rgV a b) (rngD a (b - a).toNat) := by
  unfold rgV rngD
  generalize (b - a).toNat = n
  have go : ∀ l : List Nat, AtL K O H (l.map fun i => V.int (a + (i : Nat))) (l.map fun i => PyData.int (a + (i : Nat))) := fun l => by
    induction l with
    | nil => exact .nil
    | cons x l ih => exact .cons (.int _) ih
  exact go _
theorem df_listRg {p1 p2 : Pos} (hc : X.calm = true) (hg : Gl X "list") (hm : X.mg "list" = none) (hg2 : Gl X "range") (hm2 : X.mg "range" = none) (h : DE X e te) (he : starEach [e] X.env = (false, eval e X.env) :: starEach [] X.env := by rfl) (hn : starEach [.Call (.Name "range" p2) [e] [] ppos] X.env = (false, eval (.Call (.Name "range" p2) [e] [] ppos) X.env) :: starEach [] X.env := by rfl) : DF X (.Call (.Name "list" p1) [.Call (.Name "range" p2) [e] [] ppos] [] pos) (tLr te) :=
  ⟨PE.weak (pe_listRg hc hg hm (prg_1 hg2 hm2 h.pe he) hn) fun σ H Q ⟨p, O, s, R, q⟩ => ⟨p, O, s, R, h.mono _ _ _ (fun d s' ⟨n, ed, h0, h1, q⟩ v O' H' R' k a => by
      subst ed
      cases a
      refine ⟨n, rfl, RgOk.of_le (Int.le_refl _) h1 (by decide) h0, fun l hl => ?_⟩
      have z := atL_rg X.K O' H' 0 n
      rw [Int.sub_zero] at z
      obtain ⟨f1, f2, f3⟩ := fin_lone R' hl z
      exact q l _ _ f1 (k.trans f2) f3) q⟩,
    fun s Q Q' w q => h.mono _ _ _ (fun d s' ⟨i, ed, h0, h1, q⟩ => ⟨i, ed, h0, h1, w _ _ q⟩) q⟩
end

/-! ### t[::-1] of a tuple -/
section
variable {prog : Program} {w : World} {A : Around} {E : Value → Shared → Prop} {s : Shared}
theorem adjust_back (n : Nat) : Builtin.Slice.sliceAdjust none none (-1) (n : Int) = ((n : Int) - 1, -1) := by
  unfold Builtin.Slice.sliceAdjust
  simp
theorem places_back (n : Nat) : Builtin.Slice.slicePlaces ((n : Int) - 1) (-1) (-1) = n := by
  unfold Builtin.Slice.slicePlaces
  have h1 : ¬ ((-1 : Int) > 0) := by decide
  have h2 : (- -1 : Int) = 1 := by decide
  simp only [h1, if_false, h2, Int.ediv_one]
  split <;> omega
theorem applied_back {sl : Addr} {vl vu vs : Value} {n : Nat} {Q : Int × Int × Nat → Shared → Prop} (hs : s.heap.IsSliceOf sl vl vu vs) (pl : IsPart vl none) (pu : IsPart vu none) (ps : IsPart vs (some (-1)))
    (h : Q ((n : Int) - 1, -1, n) s) : wpAny (model prog w) A (Builtin.Slice.sliceApplied (.ref sl) (pure (n : Int))) Q E s := by
  obtain ⟨ob, h1, h2, h3⟩ := hs
  unfold Builtin.Slice.sliceApplied Builtin.Slice.sliceFields
  refine wpAny_bind (wpAny_bind (wpAny_field h1 h3 (x := vl) rfl (wpAny_bind (wpAny_field h1 h3 (x := vu) rfl (wpAny_bind (wpAny_field h1 h3 (x := vs) rfl (wpAny_pure ?_)))))))
  refine wpAny_bind (HT.slicePart_ ps ?_)
  show wpAny _ _ (if ((-1 : Int) == 0) = true then _ else _) _ _ s
  rw [if_neg (by decide)]
  refine wpAny_bind (HT.slicePart_ pl (wpAny_bind (HT.slicePart_ pu (wpAny_bind (wpAny_pure ?_)))))
  show wpAny _ _ (match Builtin.Slice.sliceAdjust none none (-1) (n : Int) with | (l, u) => pure (l, (-1 : Int), Builtin.Slice.slicePlaces l u (-1))) _ _ s
  rw [adjust_back]
  show wpAny _ _ (pure ((n : Int) - 1, (-1 : Int), Builtin.Slice.slicePlaces ((n : Int) - 1) (-1) (-1))) _ _ s
  rw [places_back]
  exact wpAny_pure h
theorem pick_back (xs : Array Value) : ((List.range xs.size).filterMap fun (m : Nat) => xs[(((xs.size : Int) - 1) + (m : Int) * (-1)).toNat]?).toArray = xs.toList.reverse.toArray := by
  have e : (List.range xs.size).filterMap (fun (m : Nat) => xs[(((xs.size : Int) - 1) + (m : Int) * (-1)).toNat]?) = ((List.range xs.size).map fun k => xs.size - 1 - k).filterMap (xs[·]?) := by
    rw [List.filterMap_map]
    have go : ∀ l : List Nat, (∀ m ∈ l, m < xs.size) → l.filterMap (fun (m : Nat) => xs[(((xs.size : Int) - 1) + (m : Int) * (-1)).toNat]?) = l.filterMap ((fun x => xs[x]?) ∘ fun k => xs.size - 1 - k) := fun l => by
      induction l with
      | nil => exact fun _ => rfl
      | cons m l ih =>
        intro h
        have hm := h m List.mem_cons_self
        have e1 : (((xs.size : Int) - 1) + (m : Int) * (-1)).toNat = xs.size - 1 - m := by omega
        rw [List.filterMap_cons, List.filterMap_cons, ih fun y hy => h y (List.mem_cons_of_mem _ hy)]
        rw [show ((fun x => xs[x]?) ∘ fun k => xs.size - 1 - k) m = xs[xs.size - 1 - m]? from rfl]
        rw [e1]
    exact go _ fun m hm => List.mem_range.mp hm
  rw [e, PySem.W.krv_range, List.filterMap_reverse, PySem.W.krv_all]
theorem tuple_back {t sl : Addr} {items : Array Value} {vl vu vs : Value} {Q : Value → Shared → Prop} (ht : IsTup s.heap t items) (hs : s.heap.IsSliceOf sl vl vu vs) (pl : IsPart vl none) (pu : IsPart vu none) (ps : IsPart vs (some (-1)))
    (h : Q (.ref s.heap.objs.size) { s with heap := s.heap.push { cls := .type "tuple", data := .seq items.toList.reverse.toArray } })
    (hsz : items.size ≤ sizeLine) : wpAny (model prog w) A (getItem (.ref t) (.ref sl)) Q E s := by
  have fit : sizeOk (.seq items.toList.reverse.toArray) := by
    show items.toList.reverse.toArray.size ≤ sizeLine
    rw [List.size_toArray, List.length_reverse, Array.length_toList]
    exact hsz
  obtain ⟨ob, h1, h2, h3⟩ := id hs
  have ty : s.TypeIs (.ref sl) "slice" := ⟨ob, h1, h2⟩
  unfold getItem
  try with_reducible refine wpAny_holding ?_
  first | refine wpAny_bind (wpAny_pure ?_) | skip
  refine wpAny_bind (wpAny_sequenceKey ht.typeIs (by decide) (wpAny_bind (wpAny_callSpecial?_slot (name := Str.ofString "__getitem__") ht.typeIs PyProof.Rows.slot_tuple_getitem (wpAny_call_entry PyProof.Rows.slot_tuple_getitem ht.typeIs PyProof.Rows.entry_tuple_getitem ?_ (PyProof.Rows.args_tuple_getitem _ _)))))
  show wpAny _ _ (Builtin.Tuple.tupleItemsOf (.ref t) >>= _) _ _ s
  refine wpAny_bind (tupleItemsOf_ ht (wpAny_bind (wpAny_typeOf ty ?_)))
  rw [if_pos (by decide)]
  refine wpAny_bind (applied_back hs pl pu ps ?_)
  have no : ¬ ((((items.size : Int) - 1) == 0 && (-1 : Int) == 1 && items.size == items.size) = true) := by
    intro q
    rw [Bool.and_eq_true, Bool.and_eq_true] at q
    exact absurd (eq_of_beq q.1.2) (by decide)
  show wpAny _ _ (if (((items.size : Int) - 1) == 0 && (-1 : Int) == 1 && items.size == items.size) = true then _ else _) _ _ s
  rw [if_neg no, pick_back]
  first
    | exact wpAny_bind (m := Builtin.Tuple.tupleExact _) (wpAny_newObj_type (wpAny_pure ⟨_, rfl, wpAny_pure h⟩) fit)
    | exact wpAny_bind (m := Builtin.Tuple.tupleExact _) (wpAny_newObj_type (wpAny_bind (wpAny_pure (wpAny_pure ⟨_, rfl, wpAny_pure h⟩))) fit)
    | exact wpAny_bind (wpAny_bind (m := Builtin.Tuple.tupleExact _) (wpAny_newObj_type (wpAny_pure (wpAny_pure ⟨_, rfl, wpAny_pure h⟩)) fit))
    | exact wpAny_bind (wpAny_bind (m := Builtin.Tuple.tupleExact _) (wpAny_newObj_type (wpAny_pure ⟨_, rfl, wpAny_pure h⟩) fit))
end
def tBk (K : PySem.W.Frag) (te : TE) : TE := fun σ H Q => te σ H fun x H1 => ∃ a xs, x = .ref a ∧ ((SqL K H1 a xs ∧ ∀ p, H1 p = none → Q (.ref p) (upd H1 p (.lst xs.reverse))) ∨ (SqT K H1 a xs ∧ NewT H1 xs.reverse Q))
theorem pe_back {X : Cx} {e : Expr} {te : TE} {k : Nat} {p1 p2 p3 pos : Pos} (he : PE X e te) : PE X (.Subscript e (.Slice none none (some (.UnaryOp .USub (.Constant (.int 1) k p1) p2)) p3) pos) (tBk X.K te) := by
  refine ⟨fun pins sh σ H Q I h => Subscript_ (thn (he.run pins sh σ H _ I h) fun v s1 ⟨x, H1, I1, r1, a, xs, ex, q⟩ => ?_)⟩
  subst ex
  cases r1
  have st : PO X (some (.UnaryOp .USub (.Constant (.int 1) k p1) p2)) (tPart (tUn (rU fun i => .int (-i)) (tC (.int 1)))) := po_some (pe_un un_neg pe_int)
  refine wpAny_Slice (thn (po_none.run pins s1 σ H1 (fun u G => u = none ∧ G = H1) I1 ⟨rfl, rfl⟩) fun vl s2 ⟨l1, H2, I2, pl, e1, e2⟩ => ?_)
  subst e1 e2
  refine thn (po_none.run pins s2 σ H2 (fun u G => u = none ∧ G = H2) I2 ⟨rfl, rfl⟩) fun vu s3 ⟨l2, H3, I3, pu, e1, e2⟩ => ?_
  subst e1 e2
  refine thn (st.run pins s3 σ H3 (fun u G => u = some (-1) ∧ G = H3) I3 ⟨1, rfl, -1, rfl, rfl, rfl⟩) fun vs s4 ⟨l3, H4, I4, ps, e1, e2⟩ => ?_
  subst e1 e2
  have I5 : Inv X pins σ H4 { s4 with heap := s4.heap.push { cls := .type "slice", data := .fields #[vl, vu, vs] } } := I4.kept (t' := s4.toks) fun b ob q => Heap.get?_push_of_some _ q
  show wpAny (model X.prog X.w) X.A (subscriptTail e (.Slice none none (some (.UnaryOp .USub (.Constant (.int 1) k p1) p2)) p3) (.ref a) (.ref s4.heap.objs.size)) (EP X pins σ Q) X.xe { s4 with heap := s4.heap.push { cls := .type "slice", data := .fields #[vl, vu, vs] } }
  rcases q with ⟨hx, q⟩ | ⟨hx, q⟩
  · obtain ⟨its, r, ht, hz⟩ := I5.list hx
    have hl := r.length
    refine tail_any (ops := [.ref a, .ref s4.heap.objs.size]) ht.isList.typeIs (PySem.slot_list_getitem.lookup) ?_ (by with_unfolding_all rfl)
    refine wpAny_getItem_list_slice ht.isList (Heap.IsSliceOf.new _ vl vu vs) pl pu ps (by decide) ?_ (by rw [List.size_toArray]; omega)
    rw [PySem.W.krv_pick]
    exact ⟨.ref _, _, I5.laid (t' := s4.toks) (o := .lst xs.reverse) (fun b ob q => Heap.get?_push_of_some _ q) (Nat.le_refl _) ⟨by rw [List.length_reverse]; exact hz, _, 0, r.reverse, Heap.get?_push_size _ rfl⟩, rfl, q _ (I5.hok.fresh (Nat.le_refl _))⟩
  · obtain ⟨its, r, ht, hz⟩ := I5.tuple hx
    have hl := r.length
    refine tail_any (ops := [.ref a, .ref s4.heap.objs.size]) ht.typeIs (PyProof.Rows.slot_tuple_getitem.lookup) ?_ (by with_unfolding_all rfl)
    refine tuple_back ht (Heap.IsSliceOf.new _ vl vu vs) pl pu ps ?_ (by rw [List.size_toArray]; omega)
    exact lay_push I5 (by rw [List.length_reverse]; exact hz) r.reverse q
section
variable {X : Cx} {e : Expr} {pos : Pos}
def backD : PyData → Option PyData
  | .list ds => some (.list ds.reverse)
  | .tuple ds => some (.tuple ds.reverse)
  | _ => none
@[simp] def tBkD (t : PTL) : PTE := fun s Q => t s fun x s' => ∃ d z, rd s' x = some d ∧ backD d = some z ∧ Q z s'
theorem de_rev {t : PTL} {k : Nat} {q1 q2 q3 : Pos} (h : DL X e t) : DE X (.Subscript e (.Slice none none (some (.UnaryOp .USub (.Constant (.int 1) k q1) q2)) q3) pos) (tBkD t) :=
  ⟨PE.weak (pe_back h.pe) fun σ H Q ⟨p, O, s, R, q⟩ => ⟨p, O, s, R, h.mono _ _ _ (fun x s' ⟨d, z, e1, e2, q⟩ v O' H' R' k a => by
      have ax := R'.read a e1
      unfold backD at e2
      split at e2
      · cases e2
        obtain ⟨b, xs, rfl, h1, h2⟩ := ax.lst
        refine ⟨b, xs, rfl, .inl ⟨SqL.of h1, fun l hl => ?_⟩⟩
        obtain ⟨f1, f2, f3⟩ := fin_lst R' hl h2.reverse
        exact q _ O' _ f1 (k.trans f2) f3
      · cases e2
        obtain ⟨b, xs, rfl, h1, h2⟩ := ax.tup
        refine ⟨b, xs, rfl, .inr ⟨h1.sq, fun l o hl ho => ?_⟩⟩
        obtain ⟨f1, f2, f3⟩ := fin_tup R' hl ho h2.reverse
        exact q _ O' _ f1 (k.trans f2) f3
      · cases e2) q⟩,
    fun s Q Q' w q => h.mono _ _ _ (fun x s' ⟨d, z, e1, e2, q⟩ => ⟨d, z, e1, e2, w _ _ q⟩) q⟩
end
end PD
end
section
set_option Elab.async false
set_option linter.all false
set_option maxRecDepth 100000
set_option maxHeartbeats 4000000
/-! PD18: min, max of two numbers; how the readings of loops are shown. -/
namespace PD
variable [TB]
open PySem PySem.Spec PyProof.Rows L2

def min2D : List PyData → Option PyData
  | [.int i, .int j] => some (.int (if j < i then j else i))
  | _ => none
def max2D : List PyData → Option PyData
  | [.int i, .int j] => some (.int (if j > i then j else i))
  | _ => none
section
variable {K : PySem.W.Frag} {X : Cx} {O : Ow} {H : Hp}
theorem AtEL.both {xs : List V} {d e : PyData} (h : AtEL K O H xs [d, e]) : ∃ v w, xs = [v, w] ∧ AtE K O H v d ∧ AtE K O H w e := by
  cases h with
  | cons h1 h =>
    cases h with
    | cons h2 h =>
      cases h
      exact ⟨_, _, rfl, h1, h2⟩
theorem call_min2P (hc : X.calm = true) : CallD X (.builtin "min") min2D := by
  intro pins sh σ H xs us Q I rv ⟨O, ds, z, a, e, k, _, _⟩
  unfold min2D at e
  split at e
  · cases e
    obtain ⟨v, w, rfl, a1, a2⟩ := a.both
    cases a1.int; cases a2.int
    exact call_min2 hc pins sh σ H _ us Q I rv ⟨_, _, rfl, k _ (.int _)⟩
  · cases e
theorem call_max2P (hc : X.calm = true) : CallD X (.builtin "max") max2D := by
  intro pins sh σ H xs us Q I rv ⟨O, ds, z, a, e, k, _, _⟩
  unfold max2D at e
  split at e
  · cases e
    obtain ⟨v, w, rfl, a1, a2⟩ := a.both
    cases a1.int; cases a2.int
    exact call_max2 hc pins sh σ H _ us Q I rv ⟨_, _, rfl, k _ (.int _)⟩
  · cases e
end

/-! ### loops -/
/-- a loop's reading by an invariant of the turn -/
theorem fRun_inv {g : PTG} {tb : PTS} {E : PEnds} {items : List PyData} (I : Nat → PSt → Prop)
    (step : ∀ (i : Nat) (d : PyData) (s : PSt) (N : PSt → Prop), items[i]? = some d → I i s → (∀ s', I (i + 1) s' → N s') → g d s fun s1 => tb (E.lp N) s1)
    (done : ∀ s, I items.length s → E.nx s) {s : PSt} (h : I 0 s) : fRun g tb E items s := by
  have go : ∀ (k i : Nat) (s : PSt), k = items.length - i → i ≤ items.length → I i s → fRun g tb E (items.drop i) s := fun k => by
    induction k with
    | zero =>
      intro i s hk hi h
      have e : i = items.length := by omega
      subst e
      rw [List.drop_length]
      exact done s h
    | succ k ih =>
      intro i s hk hi h
      have hlt : i < items.length := by omega
      rw [List.drop_eq_getElem_cons hlt]
      exact step i items[i] s _ (List.getElem?_eq_getElem hlt) h fun s' h' => ih (i + 1) s' (by omega) (by omega) h'
  exact go _ 0 s rfl (Nat.zero_le _) h
theorem tWh_inv {c : PTT} {tb : PTS} {E : PEnds} {s : PSt} (I : PSt → Prop) (m : PSt → Nat) (h : I s)
    (step : ∀ (s : PSt) (N : PSt → Prop), I s → (∀ s', I s' → m s' < m s → N s') → c s fun b s1 => if b = true then tb (E.lp N) s1 else E.nx s1) : tWh c tb E s :=
  ⟨fun k s => I s ∧ m s = k, ⟨m s, h, rfl⟩, fun k s1 ⟨h1, e⟩ => step s1 _ h1 fun s' h' lt => ⟨m s', by omega, h', rfl⟩⟩
/-- a comprehension that leaves the hand -/
theorem cRun_map {g : PTG} {tt : PTT} {te : PTE} {vs : List Nat} {G : List Sl} {hd : List PyData} (p : PyData → Bool) (f : PyData → PyData) :
    ∀ (ds : List PyData), (∀ d ∈ ds, ∀ (Y : PyData → List PyData → Prop) (N : List PyData → Prop), (p d = true → Y (f d) hd) → (p d = false → N hd) → g d ⟨blkG G vs, hd⟩ fun s1 => tt s1 fun b s2 => if b = true then te s2 fun y s3 => Y y s3.hd else N s2.hd) →
      ∀ (out : List PyData) (Q : List PyData → List PyData → Prop), Q (out ++ (ds.filter p).map f) hd → cRun g tt te vs G ds out hd Q
  | [], _, out, Q, q => by simpa [cRun] using q
  | d :: ds, h, out, Q, q => by
    unfold cRun
    refine h d List.mem_cons_self (fun y hd => cRun g tt te vs G ds (out ++ [y]) hd Q) (fun hd => cRun g tt te vs G ds out hd Q) (fun e => ?_) fun e => ?_
    · refine cRun_map p f ds (fun x hx => h x (List.mem_cons_of_mem _ hx)) _ Q ?_
      rw [List.filter_cons, if_pos e, List.map_cons] at q
      simpa using q
    · refine cRun_map p f ds (fun x hx => h x (List.mem_cons_of_mem _ hx)) _ Q ?_
      rw [List.filter_cons, if_neg (by rw [e]; exact Bool.false_ne_true)] at q
      exact q
/-- a comprehension without tests, over typed items, the hand left -/
theorem cRun_of {α : Type} {g : PTG} {te : PTE} {vs : List Nat} {G : List Sl} {hd : List PyData} (c : α → PyData) (f : α → PyData) (l : List α)
    (h : ∀ a ∈ l, ∀ (Y : PyData → List PyData → Prop), Y (f a) hd → g (c a) ⟨blkG G vs, hd⟩ fun s1 => te s1 fun y s3 => Y y s3.hd)
    (out : List PyData) (Q : List PyData → List PyData → Prop) (q : Q (out ++ l.map f) hd) : cRun g tYs te vs G (l.map c) out hd Q := by
  induction l generalizing out with
  | nil => simpa [cRun] using q
  | cons a l ih =>
    rw [List.map_cons]
    unfold cRun
    refine h a List.mem_cons_self (fun y hd => cRun g tYs te vs G (l.map c) (out ++ [y]) hd Q) (ih (fun x hx => h x (List.mem_cons_of_mem _ hx)) _ ?_)
    simpa using q
/-- .. with a test -/
theorem cRun_if {α : Type} {g : PTG} {tt : PTT} {te : PTE} {vs : List Nat} {G : List Sl} {hd : List PyData} (c : α → PyData) (p : α → Bool) (f : α → PyData) (l : List α)
    (h : ∀ a ∈ l, ∀ (Y : PyData → List PyData → Prop) (N : List PyData → Prop), (p a = true → Y (f a) hd) → (p a = false → N hd) → g (c a) ⟨blkG G vs, hd⟩ fun s1 => tt s1 fun b s2 => if b = true then te s2 fun y s3 => Y y s3.hd else N s2.hd)
    (out : List PyData) (Q : List PyData → List PyData → Prop) (q : Q (out ++ (l.filter p).map f) hd) : cRun g tt te vs G (l.map c) out hd Q := by
  induction l generalizing out with
  | nil => simpa [cRun] using q
  | cons a l ih =>
    rw [List.map_cons]
    unfold cRun
    refine h a List.mem_cons_self (fun y hd => cRun g tt te vs G (l.map c) (out ++ [y]) hd Q) (fun hd => cRun g tt te vs G (l.map c) out hd Q) (fun e => ?_) fun e => ?_
    · refine ih (fun x hx => h x (List.mem_cons_of_mem _ hx)) _ ?_
      rw [List.filter_cons, if_pos e, List.map_cons] at q
      simpa using q
    · refine ih (fun x hx => h x (List.mem_cons_of_mem _ hx)) _ ?_
      rw [List.filter_cons, if_neg (by rw [e]; exact Bool.false_ne_true)] at q
      exact q
/-- a comprehension that turns the hand: an invariant of what is made -/
theorem cRun_inv {g : PTG} {tt : PTT} {te : PTE} {vs : List Nat} {G : List Sl} {items : List PyData} {Q : List PyData → List PyData → Prop} (I : Nat → List PyData → List PyData → Prop)
    (step : ∀ (i : Nat) (d : PyData) (out hd : List PyData) (Y : PyData → List PyData → Prop) (N : List PyData → Prop), items[i]? = some d → I i out hd → (∀ y hd', I (i + 1) (out ++ [y]) hd' → Y y hd') → (∀ hd', I (i + 1) out hd' → N hd') →
      g d ⟨blkG G vs, hd⟩ fun s1 => tt s1 fun b s2 => if b = true then te s2 fun y s3 => Y y s3.hd else N s2.hd)
    (done : ∀ out hd, I items.length out hd → Q out hd) {hd : List PyData} (h : I 0 [] hd) : cRun g tt te vs G items [] hd Q := by
  have go : ∀ (k i : Nat) (out hd : List PyData), k = items.length - i → i ≤ items.length → I i out hd → cRun g tt te vs G (items.drop i) out hd Q := fun k => by
    induction k with
    | zero =>
      intro i out hd hk hi h
      have e : i = items.length := by omega
      subst e
      rw [List.drop_length]
      exact done out hd h
    | succ k ih =>
      intro i out hd hk hi h
      have hlt : i < items.length := by omega
      rw [List.drop_eq_getElem_cons hlt]
      unfold cRun
      exact step i items[i] out hd (fun y hd => cRun g tt te vs G (items.drop (i + 1)) (out ++ [y]) hd Q) (fun hd => cRun g tt te vs G (items.drop (i + 1)) out hd Q) (List.getElem?_eq_getElem hlt) h
        (fun y hd' h' => ih (i + 1) _ hd' (by omega) (by omega) h') fun hd' h' => ih (i + 1) _ hd' (by omega) (by omega) h'
  exact go _ 0 [] hd rfl (Nat.zero_le _) h
end PD
end
section
set_option Elab.async false
set_option linter.all false
set_option maxRecDepth 100000
set_option maxHeartbeats 4000000
/-! PM1: the data's operations on numbers, rows of numbers. -/
namespace PD
variable [TB]
open PySem PySem.Spec PyProof.Rows L2

@[simp] theorem plain_int (i : Int) : (PyData.int i).plain = true := by simp [PyData.plain]
@[simp] theorem plain_bool (i : Bool) : (PyData.bool i).plain = true := by simp [PyData.plain]
@[simp] theorem plain_none : PyData.none.plain = true := by simp [PyData.plain]
@[simp] theorem plain_str (i : Str) : (PyData.str i).plain = true := by simp [PyData.plain]
@[simp] theorem plain_tuple (l : List PyData) : (PyData.tuple l).plain = PyData.plainAll l := by simp [PyData.plain]
@[simp] theorem plain_list (l : List PyData) : (PyData.list l).plain = PyData.plainAll l := by simp [PyData.plain]
@[simp] theorem plainAll_nil : PyData.plainAll [] = true := by simp [PyData.plainAll]
@[simp] theorem plainAll_cons (d : PyData) (l : List PyData) : PyData.plainAll (d :: l) = (d.plain && PyData.plainAll l) := by simp [PyData.plainAll]
theorem plainAll_of {l : List PyData} (h : ∀ d ∈ l, d.plain = true) : PyData.plainAll l = true := by
  induction l with
  | nil => simp
  | cons d l ih => simp [h d List.mem_cons_self, ih fun x hx => h x (List.mem_cons_of_mem _ hx)]
@[simp] theorem depth_int (i : Int) : (PyData.int i).depth = 0 := by simp [PyData.depth]
@[simp] theorem depth_bool (i : Bool) : (PyData.bool i).depth = 0 := by simp [PyData.depth]
@[simp] theorem depth_none : PyData.none.depth = 0 := by simp [PyData.depth]
@[simp] theorem depth_str (i : Str) : (PyData.str i).depth = 0 := by simp [PyData.depth]
@[simp] theorem depth_tuple (l : List PyData) : (PyData.tuple l).depth = PyData.depthAll l + 1 := by simp [PyData.depth]
@[simp] theorem depth_list (l : List PyData) : (PyData.list l).depth = PyData.depthAll l + 1 := by simp [PyData.depth]
@[simp] theorem depthAll_nil : PyData.depthAll [] = 0 := by simp [PyData.depthAll]
@[simp] theorem depthAll_cons (d : PyData) (l : List PyData) : PyData.depthAll (d :: l) = max d.depth (PyData.depthAll l) := by simp [PyData.depthAll]
theorem depthAll_le {l : List PyData} {n : Nat} (h : ∀ d ∈ l, d.depth ≤ n) : PyData.depthAll l ≤ n := by
  induction l with
  | nil => simp
  | cons d l ih =>
    have h1 := h d List.mem_cons_self
    have h2 := ih fun x hx => h x (List.mem_cons_of_mem _ hx)
    simp; omega
@[simp] theorem truthy_bool (b : Bool) : (PyData.bool b).truthy = b := by simp [PyData.truthy]
@[simp] theorem isInt_int (i : Int) : (PyData.int i).isInt = true := rfl
@[simp] theorem isInt_bool (i : Bool) : (PyData.bool i).isInt = true := rfl
@[simp] theorem isInt_none : PyData.none.isInt = false := rfl
@[simp] theorem isInt_str (i : Str) : (PyData.str i).isInt = false := rfl
@[simp] theorem isInt_tuple (l : List PyData) : (PyData.tuple l).isInt = false := rfl
@[simp] theorem isInt_list (l : List PyData) : (PyData.list l).isInt = false := rfl
@[simp] theorem isBool_int (i : Int) : (PyData.int i).isBool = false := rfl
@[simp] theorem isBool_bool (i : Bool) : (PyData.bool i).isBool = true := rfl
@[simp] theorem isBool_none : PyData.none.isBool = false := rfl
@[simp] theorem isBool_str (i : Str) : (PyData.str i).isBool = false := rfl
@[simp] theorem isBool_tuple (l : List PyData) : (PyData.tuple l).isBool = false := rfl
@[simp] theorem isBool_list (l : List PyData) : (PyData.list l).isBool = false := rfl
@[simp] theorem isTuple_int (i : Int) : (PyData.int i).isTuple = false := rfl
@[simp] theorem isTuple_bool (i : Bool) : (PyData.bool i).isTuple = false := rfl
@[simp] theorem isTuple_none : PyData.none.isTuple = false := rfl
@[simp] theorem isTuple_str (i : Str) : (PyData.str i).isTuple = false := rfl
@[simp] theorem isTuple_tuple (l : List PyData) : (PyData.tuple l).isTuple = true := rfl
@[simp] theorem isTuple_list (l : List PyData) : (PyData.list l).isTuple = false := rfl
@[simp] theorem isList_int (i : Int) : (PyData.int i).isList = false := rfl
@[simp] theorem isList_bool (i : Bool) : (PyData.bool i).isList = false := rfl
@[simp] theorem isList_none : PyData.none.isList = false := rfl
@[simp] theorem isList_str (i : Str) : (PyData.str i).isList = false := rfl
@[simp] theorem isList_tuple (l : List PyData) : (PyData.tuple l).isList = false := rfl
@[simp] theorem isList_list (l : List PyData) : (PyData.list l).isList = true := rfl

/-! ### compares -/
@[simp] theorem eqv_int (i j : Int) : PyData.eqv (.int i) (.int j) = decide (i = j) := by
  rw [PyData.eqv]
  by_cases h : i = j <;> simp [h]
@[simp] theorem eqv_bool (i j : Bool) : PyData.eqv (.bool i) (.bool j) = decide (i = j) := by
  rw [PyData.eqv]
  cases i <;> cases j <;> rfl
@[simp] theorem eqD_int (i j : Int) : eqD (.int i) (.int j) = some (.bool (decide (i = j))) := by
  simp [eqD, okEq]
@[simp] theorem eqD_bool (i j : Bool) : eqD (.bool i) (.bool j) = some (.bool (decide (i = j))) := by
  simp [eqD, okEq]
@[simp] theorem neD_bool (i j : Bool) : neD (.bool i) (.bool j) = some (.bool (!decide (i = j))) := by
  simp [neD, okEq]
@[simp] theorem neD_int (i j : Int) : neD (.int i) (.int j) = some (.bool (!decide (i = j))) := by
  simp [neD, okEq]
@[simp] theorem ltD_int (i j : Int) : ltD (.int i) (.int j) = some (.bool (decide (i < j))) := by
  simp [ltD, okLt, PySem.W.alike, PySem.W.dataLt_int]
@[simp] theorem gtD_int (i j : Int) : gtD (.int i) (.int j) = some (.bool (decide (j < i))) := by
  simp [gtD, okLt, PySem.W.alike, PySem.W.dataLt_int]
@[simp] theorem leD_int (i j : Int) : leD (.int i) (.int j) = some (.bool (decide (i ≤ j))) := by
  have e : (!decide (j < i)) = decide (i ≤ j) := by
    by_cases h : i ≤ j
    · simp [h, Int.not_lt.mpr h]
    · simp [h, Int.not_le.mp h]
  simp [leD, okLt, PySem.W.alike, PySem.W.dataLt_int, e]
@[simp] theorem geD_int (i j : Int) : geD (.int i) (.int j) = some (.bool (decide (j ≤ i))) := by
  have e : (!decide (i < j)) = decide (j ≤ i) := by
    by_cases h : j ≤ i
    · simp [h, Int.not_lt.mpr h]
    · simp [h, Int.not_le.mp h]
  simp [geD, okLt, PySem.W.alike, PySem.W.dataLt_int, e]
@[simp] theorem isD_none (d : PyData) : isD d .none = some (.bool (isNone d)) := rfl
@[simp] theorem isNone_none : isNone .none = true := rfl
@[simp] theorem isNone_int (i : Int) : isNone (.int i) = false := rfl
@[simp] theorem isNone_bool (i : Bool) : isNone (.bool i) = false := rfl
@[simp] theorem isNone_tuple (i : List PyData) : isNone (.tuple i) = false := rfl
@[simp] theorem isNone_list (i : List PyData) : isNone (.list i) = false := rfl
@[simp] theorem addD_int (i j : Int) : addD (.int i) (.int j) = some (.int (i + j)) := rfl
@[simp] theorem subD_int (i j : Int) : subD (.int i) (.int j) = some (.int (i - j)) := rfl
@[simp] theorem lenD_tuple (l : List PyData) : lenD [.tuple l] = some (.int l.length) := rfl
@[simp] theorem lenD_list (l : List PyData) : lenD [.list l] = some (.int l.length) := rfl
@[simp] theorem intD_int (i : Int) : intD [.int i] = some (.int i) := rfl
@[simp] theorem intD_bool (b : Bool) : intD [.bool b] = some (.int (if b = true then 1 else 0)) := by
  cases b <;> rfl
@[simp] theorem tupleD_list (l : List PyData) : tupleD [.list l] = some (.tuple l) := rfl
@[simp] theorem min2D_int (i j : Int) : min2D [.int i, .int j] = some (.int (if j < i then j else i)) := rfl

/-! ### numbers as data -/
def nD (n : Nat) : PyData := .int (n : Int)
def nT (l : List Nat) : PyData := .tuple (l.map nD)
def nL (l : List Nat) : PyData := .list (l.map nD)
@[simp] theorem plain_nD (n : Nat) : (nD n).plain = true := by simp [nD]
@[simp] theorem depth_nD (n : Nat) : (nD n).depth = 0 := by simp [nD]
@[simp] theorem plainAll_nD (l : List Nat) : PyData.plainAll (l.map nD) = true := plainAll_of fun d h => by
  obtain ⟨n, _, rfl⟩ := List.mem_map.mp h
  simp
@[simp] theorem depthAll_nD (l : List Nat) : PyData.depthAll (l.map nD) = 0 := Nat.le_zero.mp (depthAll_le fun d h => by
  obtain ⟨n, _, rfl⟩ := List.mem_map.mp h
  simp)
@[simp] theorem plainAll_ints (l : List Int) : PyData.plainAll (l.map PyData.int) = true := plainAll_of fun d h => by
  obtain ⟨n, _, rfl⟩ := List.mem_map.mp h
  simp
@[simp] theorem depthAll_ints (l : List Int) : PyData.depthAll (l.map PyData.int) = 0 := Nat.le_zero.mp (depthAll_le fun d h => by
  obtain ⟨n, _, rfl⟩ := List.mem_map.mp h
  simp)
@[simp] theorem any_nD (l : List Nat) (n : Nat) : ((l.map nD).any fun y => PyData.eqv y (nD n)) = decide (n ∈ l) := by
  induction l with
  | nil => simp
  | cons x l ih =>
    rw [List.map_cons, List.any_cons, ih]
    simp only [nD, eqv_int]
    by_cases h : (x : Int) = (n : Int)
    · have : n = x := by omega
      simp [h, this]
    · have : n ≠ x := by omega
      simp [h, this]
@[simp] theorem inD_nT (l : List Nat) (n : Nat) : inD (nD n) (.tuple (l.map nD)) = some (.bool (decide (n ∈ l))) := by
  simp only [inD, isIn, okIn, any_nD]; simp
@[simp] theorem inD_nL (l : List Nat) (n : Nat) : inD (nD n) (.list (l.map nD)) = some (.bool (decide (n ∈ l))) := by
  simp only [inD, isIn, okIn, any_nD]; simp
@[simp] theorem notInD_nT (l : List Nat) (n : Nat) : notInD (nD n) (.tuple (l.map nD)) = some (.bool (!decide (n ∈ l))) := by
  simp only [notInD, isIn, okIn, any_nD]; simp
@[simp] theorem notInD_nL (l : List Nat) (n : Nat) : notInD (nD n) (.list (l.map nD)) = some (.bool (!decide (n ∈ l))) := by
  simp only [notInD, isIn, okIn, any_nD]; simp
theorem boolsOf_map {α : Type} (f : α → Bool) (l : List α) : boolsOf (l.map fun a => .bool (f a)) = some (l.map f) := by
  induction l with
  | nil => rfl
  | cons x l ih => simp [boolsOf, ih]
@[simp] theorem allD_map {α : Type} (f : α → Bool) (l : List α) : allD [.list (l.map fun a => .bool (f a))] = some (.bool (l.all f)) := by
  simp only [allD, boolsOf_map, Option.map_some, List.all_map]
  rfl
@[simp] theorem anyD_map {α : Type} (f : α → Bool) (l : List α) : anyD [.list (l.map fun a => .bool (f a))] = some (.bool (l.any f)) := by
  simp only [anyD, boolsOf_map, Option.map_some, List.any_map]
  rfl
theorem ixN_nat {n k : Nat} (h : k < n) : ixN n (k : Int) = some k := by
  unfold ixN
  rw [if_pos (by omega), if_pos (by omega), Int.toNat_natCast]
theorem atI_nat {α : Type} {l : List α} {k : Nat} (h : k < l.length) : atI l (k : Int) = some l[k] := by
  unfold atI
  rw [ixN_nat h]
  simp [h]
theorem ixD_tuple {l : List PyData} {k : Nat} (h : k < l.length) : ixD (.tuple l) (.int (k : Int)) = some l[k] := atI_nat h
theorem ixD_list {l : List PyData} {k : Nat} (h : k < l.length) : ixD (.list l) (.int (k : Int)) = some l[k] := atI_nat h
theorem rngD_nat (n : Nat) : rngD 0 ((n : Int)).toNat = (List.range n).map nD := by
  unfold rngD
  rw [Int.toNat_natCast]
  apply List.map_congr_left
  intro a _
  simp [nD]
end PD
end
section
set_option Elab.async false
set_option linter.all false
set_option maxRecDepth 100000
set_option maxHeartbeats 4000000
/-! PM2: sorted rows of numbers; what is a permutation of numbers. -/
namespace PD
variable [TB]
open PySem PySem.Spec PyProof.Rows L2
def unD : PyData → Nat
  | .int i => i.toNat
  | _ => 0
@[simp] theorem unD_nD (n : Nat) : unD (nD n) = n := by simp [unD, nD]
theorem nD_of_mem {l : List Nat} {d : PyData} (h : d ∈ l.map nD) : nD (unD d) = d := by
  obtain ⟨n, _, rfl⟩ := List.mem_map.mp h
  simp
theorem of_perm {out : List PyData} {l : List Nat} (h : out.Perm (l.map nD)) : ∃ o : List Nat, out = o.map nD ∧ o.Perm l := by
  refine ⟨out.map unD, ?_, ?_⟩
  · rw [List.map_map]
    have go : ∀ m : List PyData, (∀ d ∈ m, nD (unD d) = d) → m = m.map (nD ∘ unD) := fun m => by
      induction m with
      | nil => exact fun _ => rfl
      | cons d m ih =>
        intro hm
        rw [List.map_cons, ← ih fun x hx => hm x (List.mem_cons_of_mem _ hx)]
        show _ = nD (unD d) :: m
        rw [hm d List.mem_cons_self]
    exact go out fun d hd => nD_of_mem (h.subset hd)
  · have := h.map unD
    rw [List.map_map] at this
    have e : (unD ∘ nD) = id := by funext n; simp
    rw [e, List.map_id] at this
    exact this
theorem le_nD (a b : Nat) : PySem.W.dataLe false id (nD a) (nD b) = decide (a ≤ b) := by
  have e : PySem.W.dataLe false id (nD a) (nD b) = !PySem.W.dataLt (nD b) (nD a) := rfl
  rw [e, nD, nD, PySem.W.dataLt_int]
  by_cases h : a ≤ b
  · simp [h]
  · simp [h]; omega
theorem sorted_nD (l : List Nat) : ∃ m : List Nat, sortedD [.list (l.map nD)] = some (m.map nD) ∧ m.Perm l ∧ m.Pairwise (· ≤ ·) := by
  have ok : okSort (l.map nD) = true := by
    have h3 : (l.map nD).all (fun a => (l.map nD).all fun b => PySem.W.alike a b) = true := List.all_eq_true.mpr fun a ha => List.all_eq_true.mpr fun b hb => by
      obtain ⟨m, _, rfl⟩ := List.mem_map.mp ha
      obtain ⟨n, _, rfl⟩ := List.mem_map.mp hb
      simp [nD, PySem.W.alike]
    have h4 : (l.map nD).all nonTup = true := List.all_eq_true.mpr fun a ha => by
      obtain ⟨m, _, rfl⟩ := List.mem_map.mp ha
      rfl
    have h5 : (l.map nD).all (fun d => decide (d.depth ≤ 60)) = true := List.all_eq_true.mpr fun a ha => by
      obtain ⟨m, _, rfl⟩ := List.mem_map.mp ha
      simp
    unfold okSort
    rw [h3, h4, h5, plainAll_nD]
    simp
  have e : sortD (l.map nD) = (l.mergeSort fun a b => decide (a ≤ b)).map nD := (List.map_mergeSort fun a _ b _ => (le_nD a b).symm).symm
  refine ⟨l.mergeSort fun a b => decide (a ≤ b), by simp only [sortedD, ok, if_true, e], List.mergeSort_perm _ _, ?_⟩
  have := List.pairwise_mergeSort (le := fun a b : Nat => decide (a ≤ b)) (fun a b c h1 h2 => by simp at *; omega) (fun a b => by simp; omega) l
  exact this.imp fun h => by simpa using h
/-- the rising row of what stands in a row once -/
theorem sorted_rise {l : List Nat} (nd : l.Nodup) : ∃ m : List Nat, sortedD [.list (l.map nD)] = some (m.map nD) ∧ m.Pairwise (· < ·) ∧ ∀ x, x ∈ m ↔ x ∈ l := by
  obtain ⟨m, h1, h2, h3⟩ := sorted_nD l
  refine ⟨m, h1, ?_, fun x => h2.mem_iff⟩
  have nm : m.Nodup := h2.nodup_iff.mpr nd
  exact (h3.and nm).imp fun h => Nat.lt_of_le_of_ne h.1 h.2
end PD
end
section
set_option Elab.async false
set_option linter.all false
set_option maxRecDepth 100000
set_option maxHeartbeats 4000000
/-! PD19: the law's own frame: the hand is made of the script. -/
namespace PD
variable [TB]
open PySem PySem.Spec PyProof.Rows L2

def absI (n : Int) : Int := if n < 0 then -n else n
/-- the hand is made -/
def spHand (K : PySem.W.Frag) : Sp := fun vs H Q _ => ∃ (a : Addr) (ns : List Int), vs = [.ref a] ∧ SqL K H a (ns.map V.int) ∧ ns.length ≤ 63 ∧ LamX.Tabs TB.tb H ∧
  ∀ (H' : Hp) (b c : Addr) (z : Int), LamX.Tabs TB.tb H' → H' b = some (.lst [.ref c, .int 0, .int 0, .int z, .int 0]) → H' c = some (.lst ((ns.map absI).map V.int)) → 0 ≤ z → Q (.ref b) H'
def tAbs2 : PTE := tCl absD (tCnL (tOf (tCl intD (tCnL (tSl 2) tNlL))) tNlL)
def tHandRet (c m : Int) : PTS := (tSq (tRt false (tLs (tCn (tVr 1) (tCn (tK (.int 0)) (tCn (tK (.int 0)) (tCn (tBin addD (tOf (tK (.int c))) (tOf (tBin mulD (tOf (tK (.int m))) (tOf (tCl lenD (tCnL (tSl 1) tNlL)))))) (tCn (tK (.int 0)) tNl)))))))
  tNx)
theorem cutV_all {xs : List V} (h : xs.length ≤ 63) : L2.cutV xs none (some 63) = xs := by
  unfold L2.cutV
  rw [HT.sIx_none, show (some (63 : Int)) = some ((63 : Nat) : Int) from rfl, HT.sIx_nat, Nat.min_eq_right h, List.drop_zero, Nat.sub_zero, List.take_of_length_le (Nat.le_refl _)]
section
variable {K : PySem.W.Frag} {O : Ow} {H : Hp}
theorem tb_at {H : Hp} (hT : LamX.Tabs TB.tb H) {a : Addr} (t : Tb a) : ∃ ps, H a = some (.tbl ps) := (show TbOk Tb H from ⟨fun q hq => ⟨q, hq, rfl⟩, hT⟩).at t
theorem Rl.bare {σ : L2.St} {G : List Sl} (hT : LamX.Tabs TB.tb H) (hl : G.length = σ.length) (hs : ∀ (i : Nat) (S : Sl), G[i]? = some S → SlOk K ⟨none, H, Tb⟩ Tb H σ[i]? S) (hm : ∀ (i : Nat) (d : PyData), G[i]? ≠ some (.m d)) : Rl K ⟨none, H, Tb⟩ Tb σ H ⟨G, []⟩ :=
  ⟨hl, hs, fun i _ d _ _ e => absurd e (hm i d), (fun _ e => nomatch e), fun _ _ e _ => e, fun a z => by obtain ⟨ps, e⟩ := tb_at hT z; rw [e]; exact True.intro, fun _ z => z, fun a z => (by obtain ⟨ps, e⟩ := tb_at hT z; show H a ≠ none; rw [e]; exact fun w => nomatch w), fun _ z _ => z, ⟨fun q hq => ⟨q, hq, rfl⟩, hT⟩⟩
theorem tabs_upd {d : Addr} {xs : List V} {u : HO} (hT : LamX.Tabs TB.tb H) (e : H d = some (.lst xs)) : LamX.Tabs TB.tb (upd H d u) := fun q hq => by
  obtain ⟨ps, h1, h2, h3⟩ := hT q hq
  refine ⟨ps, by rw [upd_ne fun z => by rw [z, e] at h1; cases h1]; exact h1, h2, fun pos cv hc => ?_⟩
  obtain ⟨c, e1, e2⟩ := h3 pos cv hc
  exact ⟨c, e1, by rw [upd_ne fun z => by rw [z, e] at e2; unfold LamX.CodeO at e2; cases e2]; exact e2⟩
theorem atL_ints (l : List Int) : AtL K O H (l.map V.int) (l.map PyData.int) := by
  induction l with
  | nil => exact .nil
  | cons x l ih => exact .cons (.int _) ih
theorem kp_all {O' : Ow} {H' : Hp} (hT : LamX.Tabs TB.tb H) (k : Kp Tb H O' H') : ∀ b o, H b = some o → (∀ ps, o ≠ .tbl ps) → H' b = some o := fun b o e n => k.st b o e fun z => by
  obtain ⟨ps, e2⟩ := tb_at hT z
  rw [e] at e2
  exact n ps (Option.some.inj e2)
theorem hand_read {D : Ends} {Q : VK} {E : XK} {a : Addr} {c m : Int} (h : spHand K [.ref a] H Q E) (hD : D.rt = Q) (c0 : 0 ≤ c := by decide) (m0 : 0 ≤ m := by decide) :
    tSeq (tAsg (tLc (iList K (L2.tSl (rSlL K) (tVar 0) tNoPart (tPart (tC (.int 63))))) (gName 2) tYes (lift K tAbs2) [2]) (gName 1)) (liftS K (tHandRet c m)) D [some (.ref a), none, none] H := by
  obtain ⟨a', ns, ev, hs, hl, hT, q⟩ := h
  cases ev
  refine ⟨.ref a, rfl, 63, rfl, a, ns.map V.int, rfl, hs, fun p hp => ?_⟩
  rw [cutV_all (by simpa using hl)]
  refine ⟨p, rfl, ⟨_, SqL.of upd_same⟩, fun d hd => ?_⟩
  have pd : p ≠ d := fun e => by rw [e, upd_same] at hd; cases hd
  have t1 : LamX.Tabs TB.tb (upd H p (.lst (ns.map V.int))) := hT.ext fun b o e => by rw [upd_ne (ne_of_none e hp)]; exact e
  have t2 : LamX.Tabs TB.tb (upd (upd H p (.lst (ns.map V.int))) d (.lst [])) := t1.ext fun b o e => by rw [upd_ne (ne_of_none e hd)]; exact e
  refine lc_list (xs := ns.map V.int) (fun i H' => LamX.Tabs TB.tb H' ∧ H' p = some (.lst (ns.map V.int)) ∧ H' d = some (.lst (((ns.take i).map absI).map V.int))) ⟨t2, by rw [upd_ne pd, upd_same], by rw [upd_same]; rfl⟩ (fun i H' _ w => SqL.of w.2.1) (fun i x H' hx w => ?_) fun H' w => ?_
  · have hi : i < ns.length := by simpa using (List.getElem?_eq_some_iff.mp hx).1
    rw [List.getElem?_map, List.getElem?_eq_getElem hi] at hx
    cases hx
    refine ⟨rfl, ?_⟩
    simp only [L2.tYes, if_true]
    refine ⟨_, _, ⟨[.no, .no, .v (.int ns[i])], []⟩, Rl.bare w.1 rfl (fun j S e => ?_) (fun j e z => ?_), ?_⟩
    · match j, e with
      | 0, e => cases e; trivial
      | 1, e => cases e; trivial
      | 2, e => cases e; exact ⟨_, rfl, .int _⟩
      | j + 3, e => cases e
    · match j, z with
      | 0, z => cases z
      | 1, z => cases z
      | 2, z => cases z
      | j + 3, z => cases z
    · simp [tAbs2, absD]
      intro v O' H2 R2 k2 av
      cases av
      have h2d := kp_all w.1 k2 d _ w.2.2 fun ps z => nomatch z
      refine ⟨_, h2d, by simp [sizeLine]; omega, tabs_upd R2.tbo.tab h2d, (by rw [upd_ne pd]; exact kp_all w.1 k2 p _ w.2.1 fun ps z => nomatch z), ?_⟩
      have e3 : List.take (i + 1) (List.map (V.int ∘ absI) ns) = List.map V.int (List.map absI (List.take i ns)) ++ [V.int (absI ns[i])] := by
        rw [List.map_map, ← List.map_take, List.take_succ_eq_append_getElem hi, List.map_append]
        rfl
      rw [upd_same, e3]
      rfl
  · have e : (ns.map V.int).length = ns.length := by simp
    rw [e, List.take_of_length_le (Nat.le_refl _)] at w
    refine ⟨_, _, ⟨[.no, .v (.list ((ns.map absI).map .int)), .no], []⟩, Rl.bare w.1 rfl (fun j S e => ?_) (fun j e z => ?_), ?_⟩
    · match j, e with
      | 0, e => cases e; trivial
      | 1, e => cases e; exact ⟨_, rfl, .lst ⟨(fun z => by obtain ⟨ps, e⟩ := tb_at w.1 z; rw [w.2.2] at e; cases e), w.2.2⟩ (atL_ints _)⟩
      | 2, e => cases e; trivial
      | j + 3, e => cases e
    · match j, z with
      | 0, z => cases z
      | 1, z => cases z
      | 2, z => cases z
      | j + 3, z => cases z
    · simp [tHandRet]
      have m1 : mulD (.int m) (.int (ns.length : Int)) = some (.int (m * (ns.length : Int))) := by
        have : CMul m (ns.length : Int) := by unfold CMul; omega
        simp [mulD, this]
      refine ⟨_, m1, _, rfl, by simp [sizeLine], fun v σ' O' H2 R2 k2 av => ?_⟩
      have av : At K O' H2 v (.list [.list (ns.map (PyData.int ∘ absI)), .int 0, .int 0, .int (c + m * (ns.length : Int)), .int 0]) := av
      rw [hD]
      cases av with
      | lst s1 l1 =>
        cases l1 with
        | cons a1 l1 =>
          cases a1 with
          | lst s2 l2 =>
            cases l1 with
            | cons a2 l1 =>
              cases a2
              cases l1 with
              | cons a3 l1 =>
                cases a3
                cases l1 with
                | cons a4 l1 =>
                  cases a4
                  cases l1 with
                  | cons a5 l1 =>
                    cases a5
                    cases l1
                    rw [← List.map_map] at l2
                    have ex : ∀ (l : List Int) (xs : List V), AtL K O' H2 xs (l.map PyData.int) → xs = l.map V.int := fun l => by
                      induction l with
                      | nil => intro xs h; cases h; rfl
                      | cons y l ih => intro xs h; cases h with | cons h1 h2 => cases h1; rw [ih _ h2]; rfl
                    exact q H2 _ _ _ R2.tbo.tab s1.2 (by rw [s2.2, ex _ _ l2]) (by have := Int.mul_nonneg m0 (Int.natCast_nonneg ns.length); omega)
end
end PD
end
section
set_option Elab.async false
set_option linter.all false
set_option maxRecDepth 100000
set_option maxHeartbeats 4000000
/-! PD20: the law's first statement: hand = _law_hand(script). -/
namespace PD
variable [TB]
open PySem PySem.Spec PyProof.Rows L2
structure HandD (hd : List PyData) : Prop where
  ex : ∃ (cells : List Int) (i : Nat) (c s k : Int), hd = [.list (cells.map .int), .int i, .int c, .int s, .int k] ∧ (∀ x ∈ cells, 0 ≤ x) ∧ 0 ≤ c ∧ 0 ≤ s ∧ 0 ≤ k
/-- what a law is to end with -/
def lawEnds : PEnds := ⟨fun _ => False, fun fr d _ => fr = false ∧ d = .bool true, fun _ => False, fun _ => False⟩
def spLaw (K : PySem.W.Frag) : Sp := fun vs H Q _ => ∃ (a : Addr) (ns : List Int), vs = [.ref a] ∧ SqL K H a (ns.map V.int) ∧ ns.length ≤ 63 ∧ LamX.Tabs TB.tb H ∧ ∀ H', Q (.bl true) H'
theorem law_read {K : PySem.W.Frag} {H : Hp} {D : Ends} {Q : VK} {E : XK} {a : Addr} {ns : List Int} {u : PTS} {i m : Nat} (hu : MonoS u) (hs : SqL K H a (ns.map V.int)) (hl : ns.length ≤ 63) (hT : LamX.Tabs TB.tb H) (hD : D.rt = Q) (hQ : ∀ H', Q (.bl true) H') (hi : i < m + 1)
    (hr : ∀ hd, HandD hd → u lawEnds ⟨(List.replicate (m + 1) .no).set i .h, hd⟩) :
    tSeq (tAsg (tCall (spHand K) [] E (tCons (tVar 0) L2.tNil)) (gName i)) (liftS K u) D (some (.ref a) :: List.replicate m none) H := by
  refine ⟨.ref a, rfl, a, ns, rfl, hs, hl, hT, fun H' b c z hT2 hb hc hz => ?_⟩
  have bc : c ≠ b := fun e => by
    rw [e, hb] at hc
    injection hc with hc
    injection hc with hc
    cases ns with
    | nil => cases hc
    | cons x l => injection hc with h1 _; cases h1
  have ct : ¬ Tb c := fun t => by
    obtain ⟨ps, e⟩ := tb_at hT2 t
    rw [hc] at e; cases e
  have get : ∀ (j : Nat) (S : Sl), ((List.replicate (m + 1) Sl.no).set i .h)[j]? = some S → S = .no ∨ (S = .h ∧ j = i) := fun j S e => by
    by_cases q : i = j
    · subst q
      rw [List.getElem?_set_self (by simpa using hi)] at e
      cases e; exact .inr ⟨rfl, rfl⟩
    · rw [List.getElem?_set_ne q, List.getElem?_replicate] at e
      split at e
      · cases e; exact .inl rfl
      · cases e
  show liftS K u D ((some (.ref a) :: List.replicate m none).set i (some (.ref b))) H'
  refine ⟨⟨some b, H', fun x => x = b ∨ Tb x⟩, fun x => x = b ∨ Tb x, ⟨(List.replicate (m + 1) .no).set i .h, [.list ((ns.map absI).map .int), .int 0, .int 0, .int z, .int 0]⟩,
    ⟨by simp, fun j S e => ?_, fun j l d d' x e1 _ _ _ => ?_, fun x e => ?_, fun x o e _ => e, fun x e => ?_, fun x e => e, fun x e => ?_, fun x e _ => e, ⟨fun q hq => .inr ⟨q, hq, rfl⟩, hT2⟩⟩, hu _ lawEnds _ ⟨fun s' z => False.elim z, fun fr d s' ⟨e1, e2⟩ v σ' O' H2 R2 k2 av => ?_, fun s' z => False.elim z, fun s' z => False.elim z⟩ (hr _ ⟨ns.map absI, 0, 0, z, 0, rfl, fun x hx => ?_, Int.le_refl _, hz, Int.le_refl _⟩)⟩
  · rcases get j S e with q | ⟨q1, q2⟩
    · subst q; trivial
    · subst q1 q2
      exact ⟨b, rfl, by rw [List.getElem?_set_self (by simpa using hi)]⟩
  · rcases get j _ e1 with q | ⟨q, _⟩ <;> cases q
  · cases e
    exact ⟨.inl rfl, _, hb, .cons (.lst ⟨fun z => z.elim bc ct, hc⟩ (atL_ints _)) (.cons (.int _) (.cons (.int _) (.cons (.int _) (.cons (.int _) .nil))))⟩
  · rcases e with e | e
    · rw [e, hb]; exact True.intro
    · obtain ⟨ps, e⟩ := tb_at hT2 e; rw [e]; exact True.intro
  · show H' x ≠ none
    rcases e with e | e
    · rw [e, hb]; exact fun z => nomatch z
    · obtain ⟨ps, e⟩ := tb_at hT2 e; rw [e]; exact fun z => nomatch z
  · subst e1 e2
    rw [hD]
    have av : At K O' H2 v (.bool true) := av
    cases av
    exact hQ H2
  · obtain ⟨n, _, rfl⟩ := List.mem_map.mp hx
    unfold absI
    split <;> omega
end PD
end
section
set_option Elab.async false
set_option linter.all false
set_option maxRecDepth 100000
set_option maxHeartbeats 4000000
/-! PD21: repr(x). -/
namespace PD
variable [TB]
open PySem PySem.Spec PyProof.Rows L2
/-- repr of data: what the kit shows -/
def okShow (d : PyData) : Bool := (std d).showable && (!(std d).hasDict || noL d) && decide ((std d).depth ≤ 60) && decide ((std d).shown.length ≤ sizeLine)
def reprD : List PyData → Option PyData
  | [d] => if okShow d = true then some (.str (std d).shown) else none
  | _ => none
theorem call_reprP {X : Cx} (hg : X.A.guards = some []) (hu : X.A.units + 64 < cLine) : CallD X (.builtin "repr") reprD := by
  intro pins sh σ H xs us Q I rv h
  obtain ⟨O, ds, z, a, e, k, _, _⟩ := h
  unfold reprD at e
  split at e
  · split at e
    · rename_i d hk
      cases e
      obtain ⟨v, rfl, av⟩ := a.one
      obtain ⟨u, rfl, r⟩ : ∃ u, us = [u] ∧ RelV v u := by
        cases rv with
        | cons r1 r2 => cases r2; exact ⟨_, rfl, r1⟩
      have av := av.at0
      unfold okShow at hk
      simp only [Bool.and_eq_true, Bool.or_eq_true, decide_eq_true_eq, Bool.not_eq_true'] at hk
      obtain ⟨⟨⟨h1, h2⟩, h3⟩, h4⟩ := hk
      obtain ⟨as, hr, hn⟩ := At.readsS I d v u av r
      have hsm : (std d).hasDict = true → sysModules ∉ as := fun z hm => by
        rcases h2 with q | q
        · rw [q] at z; cases z
        · have := hn q _ hm
          simp at this
      have fin : ∀ (t : Str) h' tk, t = (std d).shown → (∀ b o, sh.heap.get? b = some o → h'.get? b = some o) → ∀ u', EP X pins σ Q (.str t u') { sh with heap := h', toks := tk } := fun t h' tk et hk u' =>
        ⟨.str t, H, I.kept hk, ⟨_, rfl⟩, by rw [et]; exact k _ (.str _)⟩
      have same : ∀ (t : Str) tk, t = (std d).shown → ∀ u', EP X pins σ Q (.str t u') { sh with toks := tk } := fun t tk et u' => fin t sh.heap tk et (fun _ _ e => e) u'
      cases d with
      | none => cases av; cases r; exact PySem.P.repr_of_none (same _ _ (by rw [std]; simp [PyData.shown]) _)
      | bool b => cases av; cases r; exact PySem.P.repr_of_bool (same _ _ (by rw [std]; simp [PyData.shown]) _)
      | int i =>
        cases av
        obtain ⟨t, rfl⟩ := r
        exact PySem.P.repr_of_int (by rw [std] at h1; simpa [PyData.showable] using h1) (same _ _ (by rw [std]; simp [PyData.shown]) _)
      | str x =>
        cases av
        obtain ⟨t, rfl⟩ := r
        rw [std] at h4
        exact PySem.P.repr_of_str (same _ _ (by rw [std]; simp [PyData.shown]) _) (by simpa [PyData.shown] using h4)
      | list ds =>
        cases av
        cases r
        exact repr_of_reads' hr h1 hsm hg (by omega) (fun _ _ e => e) (fun h' u' tk hk => fin _ h' tk rfl hk u') h4
      | tuple ds =>
        cases av
        cases r
        exact repr_of_reads' hr h1 hsm hg (by omega) (fun _ _ e => e) (fun h' u' tk hk => fin _ h' tk rfl hk u') h4
      | dict ds =>
        cases av <;> cases r <;> exact repr_of_reads' hr h1 hsm hg (by omega) (fun _ _ e => e) (fun h' u' tk hk => fin _ h' tk rfl hk u') h4
    · cases e
  · cases e
theorem bt_repr : bootBuiltins "repr" = some (.builtin "repr") := by decide +kernel
end PD
end
section
set_option Elab.async false
set_option linter.all false
set_option maxRecDepth 100000
set_option maxHeartbeats 4000000
/-! PD22: comprehensions over a name that may be a dict; locks. -/
namespace PD
variable [TB]
open PySem PySem.Spec PyProof.Rows L2

/-- what data reads stays: a lock laid or taken -/
structure Lk (H H' : Hp) : Prop where
  l : ∀ b xs, H b = some (.lst xs) → H' b = some (.lst xs)
  t : ∀ b xs, H b = some (.tup xs) → H' b = some (.tup xs)
  k : ∀ b kvs, Rd H b (.dK kvs) → Rd H' b (.dK kvs)
  d : ∀ b kvs, Rd H b (DxO b kvs) → Rd H' b (DxO b kvs)
  f : ∀ b o xs, H b = some (.frz o (.tup xs)) → H' b = some (.frz o (.tup xs))
def isDi : HO → Prop
  | .dK _ => True
  | .ext φ => ∃ a xs, φ = DxOk a xs
  | _ => False
theorem isDi.mut {u : HO} (h : isDi u) : Mut (some u) := by cases u <;> first | exact True.intro | exact h.elim
theorem isDi.nt {u : HO} (h : isDi u) : NT (some u) := by cases u <;> first | exact True.intro | exact h | exact h.elim
theorem isDi.dx {a : Addr} {xs : List (List Key × Addr × Value)} : isDi (DxO a xs) := ⟨a, xs, rfl⟩
section
variable {K : PySem.W.Frag} {X : Cx} {p : Pm} {O O' : Ow} {σ σ' : L2.St} {H H' : Hp} {s s' : PSt} {v : V} {d : PyData} {a : Addr} {e ea eb tg : Expr} {es : List Expr} {pos ppos : Pos} {u : HO} {od : Obj}
theorem Lk.lock (h : H a = some u) (hu : isDi u) : Lk H (upd H a (.frz od u)) := by
  have ne : ∀ b (o : HO), H b = some o → ¬ isDi o → b ≠ a := fun b o e n z => by rw [z, h] at e; cases e; exact n hu
  refine ⟨fun b xs e => by rw [upd_ne (ne b _ e (fun z => z))]; exact e, fun b xs e => by rw [upd_ne (ne b _ e (fun z => z))]; exact e, fun b kvs r => ?_, fun b kvs r => ?_, fun b o xs e => by rw [upd_ne (ne b _ e (fun z => z))]; exact e⟩
  all_goals
    by_cases z : b = a
    · subst z
      rcases r with r | ⟨o, r⟩
      · rw [h] at r
        rw [← Option.some.inj r]
        exact .inr ⟨od, upd_same⟩
      · rw [h] at r; cases r; exact hu.elim
    · rcases r with r | ⟨o, r⟩
      · exact .inl (by rw [upd_ne z]; exact r)
      · exact .inr ⟨o, by rw [upd_ne z]; exact r⟩
theorem Lk.unlock (h : H a = some (.frz od u)) (hu : isDi u) : Lk H (upd H a u) := by
  have ne : ∀ b (o : HO), H b = some o → (∀ x y, o ≠ .frz x y) → b ≠ a := fun b o e n z => by rw [z, h] at e; cases e; exact n _ _ rfl
  refine ⟨fun b xs e => by rw [upd_ne (ne b _ e (fun _ _ z => nomatch z))]; exact e, fun b xs e => by rw [upd_ne (ne b _ e (fun _ _ z => nomatch z))]; exact e, fun b kvs r => ?_, fun b kvs r => ?_, fun b o xs e => ?_⟩
  rotate_left 2
  · rw [upd_ne fun z => by rw [z, h] at e; cases e; exact hu.elim]; exact e
  all_goals
    by_cases z : b = a
    · subst z
      rcases r with r | ⟨o, r⟩
      · rw [h] at r
        exact nomatch Option.some.inj r
      · rw [h] at r; cases r; exact .inl upd_same
    · rcases r with r | ⟨o, r⟩
      · exact .inl (by rw [upd_ne z]; exact r)
      · exact .inr ⟨o, by rw [upd_ne z]; exact r⟩
theorem Lk.sqT (k : Lk H H') {xs : List V} (h : SqTo K O H a xs) : SqTo K O H' a xs := by
  obtain ⟨n, o, e1, e2⟩ := h
  exact ⟨n, o, e1, k.f _ _ _ e2⟩
mutual
theorem At.lkd (k : Lk H H') : ∀ (d : PyData) (v : V), At K O H v d → At K O H' v d
  | .none, _, h => by cases h; exact .non
  | .bool _, _, h => by cases h; exact .bl _
  | .int _, _, h => by cases h; exact .int _
  | .str _, _, h => by cases h; exact .str _
  | .list ds, _, h => by
    cases h with
    | lst s l => exact .lst ⟨s.1, k.l _ _ s.2⟩ (AtL.lkd k ds _ l)
  | .tuple ds, _, h => by
    cases h with
    | tup s l => exact .tup (k.sqT s) (AtL.lkd k ds _ l)
  | .dict (_ :: ds), _, h => by
    cases h with
    | dicK n s l => exact .dicK n (k.k _ _ s) (AtK.lkd k ds _ l)
    | dicT n s l => exact .dicT n (k.d _ _ s) (AtT.lkd k ds _ l)
    | pr n s l => exact .pr n (k.t _ _ s) (AtP.lkd k ds _ l)
  | .dict [], _, h => by cases h
theorem AtL.lkd (k : Lk H H') : ∀ (ds : List PyData) (vs : List V), AtL K O H vs ds → AtL K O H' vs ds
  | [], _, h => by cases h; exact .nil
  | d :: ds, _, h => by
    cases h with
    | cons h1 h2 => exact .cons (At.lkd k d _ h1) (AtL.lkd k ds _ h2)
theorem AtK.lkd (k : Lk H H') : ∀ (ds : List (PyData × PyData)) (vs : List (Key × V)), AtK K O H vs ds → AtK K O H' vs ds
  | [], _, h => by cases h; exact .nil
  | (_, d) :: ds, _, h => by
    cases h with
    | cons h1 h2 => exact .cons (At.lkd k d _ h1) (AtK.lkd k ds _ h2)
theorem AtT.lkd (k : Lk H H') : ∀ (ds : List (PyData × PyData)) (vs : List (List Key × Addr × Value)), AtT K O H vs ds → AtT K O H' vs ds
  | [], _, h => by cases h; exact .nil
  | (_, d) :: ds, _, h => by
    cases h with
    | cons h0 r h1 h2 => exact .cons (k.sqT h0) r (At.lkd k d _ h1) (AtT.lkd k ds _ h2)
theorem AtP.lkd (k : Lk H H') : ∀ (ds : List (PyData × PyData)) (vs : List V), AtP K O H vs ds → AtP K O H' vs ds
  | [], _, h => by cases h; exact .nil
  | (_, d) :: ds, _, h => by
    cases h with
    | cons h1 h2 => exact .cons (At.lkd k d _ h1) (AtP.lkd k ds _ h2)
end
theorem At.lk (k : Lk H H') {d : PyData} {v : V} (h : At K O H v d) : At K O H' v d := At.lkd k d v h
theorem AtL.lk (k : Lk H H') {d : List PyData} {v : List V} (h : AtL K O H v d) : AtL K O H' v d := AtL.lkd k d v h
theorem OwnR.lk (k : Lk H H') (h : OwnR K O H a d) : OwnR K O H' a d := by
  cases h with
  | lst q l => exact .lst (k.l _ _ q) (l.lk k)
  | dicK q l => exact .dicK (k.k _ _ q) (AtK.lkd k _ _ l)
  | dicT q l => exact .dicT (k.d _ _ q) (AtT.lkd k _ _ l)
theorem inn_get {G : List Sl} {i : Nat} {S : Sl} (h : (G.map Sl.inn)[i]? = some S) : (∀ d, S ≠ .m d) ∧ ∃ S0, G[i]? = some S0 ∧ S = S0.inn := by
  rw [List.getElem?_map] at h
  cases q : G[i]? with
  | none => rw [q] at h; cases h
  | some S0 =>
    rw [q] at h
    injection h with h
    refine ⟨fun d z => ?_, S0, rfl, h.symm⟩
    subst h
    cases S0 <;> cases z
theorem TbOk.upd {w : HO} (h : TbOk O H) (e : H a = some u) (n1 : ∀ ps, u ≠ .tbl ps) (n2 : ∀ c q, u ≠ LamX.CodeO c q) : TbOk O (upd H a w) := ⟨h.own, fun q hq => by
  obtain ⟨ps, h1, h2, h3⟩ := h.tab q hq
  refine ⟨ps, by rw [upd_ne fun z => by rw [z, e] at h1; exact n1 ps (Option.some.inj h1)]; exact h1, h2, fun pos cv hc => ?_⟩
  obtain ⟨c, e1, e2⟩ := h3 pos cv hc
  exact ⟨c, e1, by rw [upd_ne fun z => by rw [z, e] at e2; exact n2 _ _ (Option.some.inj e2)]; exact e2⟩⟩
theorem isDi.ntb {u : HO} (h : isDi u) : (∀ ps, u ≠ .tbl ps) ∧ ∀ c q, u ≠ LamX.CodeO c q := ⟨fun ps e => by rw [e] at h; exact h, fun c q e => codeO_nt (by rw [← e]; exact h.nt)⟩
/-- into a lock -/
theorem Rl.lock (R : Rl K p O σ H s) (h : H a = some u) (hu : isDi u) : Rl K ⟨p.ha, upd H a (.frz od u), O⟩ O σ (upd H a (.frz od u)) ⟨s.G.map Sl.inn, s.hd⟩ := by
  have k : Lk H (upd H a (.frz od u)) := Lk.lock h hu
  have RB : Rl K ⟨p.ha, H, O⟩ O σ H ⟨s.G.map Sl.inn, s.hd⟩ := R.into []
  have some' : ∀ b, H b ≠ none → upd H a (.frz od u) b ≠ none := fun b n => by
    by_cases z : b = a
    · rw [z, upd_same]; exact fun z => nomatch z
    · rw [upd_ne z]; exact n
  refine ⟨RB.len, fun i S e => ?_, RB.inj, fun b e => ?_, fun b o e _ => e, fun b z => ?_, fun b z => z, fun b z => some' b (R.dom b z).ne, fun b z _ => z, R.tbo.upd h hu.ntb.1 hu.ntb.2⟩
  · have q := RB.sl i S e
    cases S with
    | no => trivial
    | v d => obtain ⟨y, e1, e2⟩ := q; exact ⟨y, e1, e2.lk k⟩
    | m d => exact absurd rfl ((inn_get e).1 d)
    | b d => obtain ⟨c, e1, e2, e3, e4⟩ := q; exact ⟨c, e1, some' c e2, e3, e4.lk k⟩
    | h => exact q
  · obtain ⟨e1, xs, e2, e3⟩ := RB.hand b e
    exact ⟨e1, xs, k.l _ _ e2, e3.lk k⟩
  · have n := R.dom b z
    by_cases y : b = a
    · rw [y, upd_same]
      cases u <;> first | exact True.intro | exact hu.elim
    · rw [upd_ne y]; exact n
/-- out of it -/
theorem Rl.unlock (R : Rl K p O σ H s) (h : H a = some u) (hu : isDi u) (hh : ¬ p.ex a) (R' : Rl K ⟨p.ha, upd H a (.frz od u), O⟩ O' σ' H' s') :
    H' a = some (.frz od u) ∧ Lk H' (upd H' a u) ∧ Rl K ⟨p.ha, H, O⟩ O' σ' (upd H' a u) s' ∧ Kp O H O' (upd H' a u) := by
  have at1 : H' a = some (.frz od u) := R'.frm a _ upd_same hh
  have k : Lk H' (upd H' a u) := Lk.unlock at1 hu
  have off : ∀ b, b ≠ a → upd H' a u b = H' b := fun b n => upd_ne n
  have fr : ∀ b o, H b = some o → ¬ p.ex b → upd H' a u b = some o := fun b o e n => by
    by_cases z : b = a
    · rw [z] at e ⊢; rw [h] at e; cases e; exact upd_same
    · rw [off b z]; exact R'.frm b o (by show upd H a _ b = _; rw [upd_ne z]; exact e) n
  have nn : ∀ b, H b ≠ none ↔ upd H a (.frz od u) b ≠ none := fun b => by
    by_cases z : b = a
    · rw [z, upd_same, h]; exact ⟨fun _ z => (nomatch z), fun _ z => (nomatch z)⟩
    · rw [upd_ne z]
  have RR : Rl K ⟨p.ha, H, O⟩ O' σ' (upd H' a u) s' := by
    refine ⟨R'.len, fun i S e => ?_, R'.inj, fun b e => ?_, fr, fun b z => ?_, R'.o0, fun b z => (R.dom b z).ne, fun b z n => R'.ob b z ((nn b).mp n), R'.tbo.upd at1 (fun ps z => nomatch z) fun c q z => by unfold LamX.CodeO at z; cases z⟩
    · have q := R'.sl i S e
      cases S with
      | no => trivial
      | v d => obtain ⟨y, e1, e2⟩ := q; exact ⟨y, e1, e2.lk k⟩
      | m d =>
        obtain ⟨b, e1, e2, e3, e4, e5⟩ := q
        have nb : b ≠ a := fun z => by
          have e3 : upd H a (.frz od u) b = none := e3
          rw [z, upd_same] at e3; cases e3
        refine ⟨b, e1, e2, ?_, e4, ?_⟩
        · have e3 : upd H a (.frz od u) b = none := e3
          rw [upd_ne nb] at e3; exact e3
        · cases e5 with
          | lst q l => exact .lst (by rw [off b nb]; exact q) (l.lk k)
          | dicK q l => exact .dicK (by rw [off b nb]; exact q) (AtK.lkd k _ _ l)
          | dicT q l => exact .dicT (by rw [off b nb]; exact q) (AtT.lkd k _ _ l)
      | b d => obtain ⟨b, e1, e2, e3, e4⟩ := q; exact ⟨b, e1, (nn b).mpr e2, e3, e4.lk k⟩
      | h => exact q
    · obtain ⟨e1, xs, e2, e3⟩ := R'.hand b e
      exact ⟨e1, xs, k.l _ _ e2, e3.lk k⟩
    · by_cases y : b = a
      · rw [y, upd_same]; exact hu.nt
      · rw [off b y]; exact R'.dom b z
  refine ⟨at1, k, RR, ⟨fun b o e n => fr b o e fun z => n (z.elim (fun z => (R.hand b z).1) fun z => R.tbo.ow z), fun b n e z => n (RR.ob b z e)⟩⟩

/-! ### a name walked: its items, or a dict's keys -/
def itemsD : PyData → Option (List PyData)
  | .list ds => some ds
  | .tuple ds => some ds
  | .dict ((.bool _, .none) :: kvs) => some (kvs.map (·.1))
  | _ => none
@[simp] theorem itemsD_list (ds : List PyData) : itemsD (.list ds) = some ds := rfl
@[simp] theorem itemsD_tuple (ds : List PyData) : itemsD (.tuple ds) = some ds := rfl
@[simp] theorem itemsD_dic (t : Bool) (ds : List (PyData × PyData)) : itemsD (dicD t ds) = some (ds.map (·.1)) := rfl
@[simp] def tWkN (i : Nat) : PTI := fun s Q => ∃ d items, rd s (.s i) = some d ∧ itemsD d = some items ∧ Q items s
theorem mono_wkN {i : Nat} : ∀ s Q Q', (∀ d s', Q d s' → Q' d s') → tWkN i s Q → tWkN i s Q' := fun s Q Q' w ⟨d, it, e1, e2, q⟩ => ⟨d, it, e1, e2, w _ _ q⟩
theorem AtK.keyAt {kvs : List (Key × V)} {ds : List (PyData × PyData)} (h : AtK K O H kvs ds) : ∀ (i : Nat) (k : Key) (v : V), kvs[i]? = some (k, v) → (ds.map (·.1))[i]? = some (keyD k) := by
  induction kvs generalizing ds with
  | nil => intro i k v e; simp at e
  | cons q kvs ih =>
    cases h with
    | cons h1 h2 =>
      intro i k v e
      cases i with
      | zero => simp at e; obtain ⟨e1, e2⟩ := e; subst e1; rfl
      | succ i => simpa using ih h2 i k v (by simpa using e)
theorem AtT.keyAt {kvs : List (List Key × Addr × Value)} {ds : List (PyData × PyData)} (h : AtT K O H kvs ds) : ∀ (i : Nat) (q : List Key × Addr × Value), kvs[i]? = some q → (ds.map (·.1))[i]? = some (keysD q.1) ∧ SqTo K O H q.2.1 (q.1.map kV) := by
  induction kvs generalizing ds with
  | nil => intro i q e; simp at e
  | cons q kvs ih =>
    cases h with
    | cons h0 _ h1 h2 =>
      intro i q' e
      cases i with
      | zero => simp at e; subst e; exact ⟨rfl, h0⟩
      | succ i => simpa using ih h2 i q' (by simpa using e)
theorem at_kV (k : Key) : At K O H (kV k) (keyD k) := by cases k <;> first | exact .int _ | exact .str _
theorem atL_kV : ∀ k : List Key, AtL K O H (k.map kV) (k.map keyD)
  | [] => .nil
  | k :: ks => .cons (at_kV k) (atL_kV ks)
theorem it_keys {G : Ow → Hp → Prop} {o : Obj} {kvs : List (Key × V)} {ds : List (PyData × PyData)} {K0 : PySem.W.Frag} {O0 : Ow} {H0 : Hp} (hk : AtK K0 O0 H0 kvs ds) (h : ∀ O H, G O H → H a = some (.frz o (.dK kvs))) : ItOk K G (Itk a o kvs) (ds.map (·.1)) where
  go i O H g hi := ⟨h O H g, by rw [hk.length]; simpa using hi⟩
  stop i O H g hi := ⟨h O H g, by rw [hk.length]; simpa using hi⟩
  yld i O H x H' d g _ hd y := by
    obtain ⟨e, k, v, e1, e2⟩ := y
    subst e e2
    rw [hk.keyAt i k v e1] at hd
    cases hd
    exact ⟨.inl rfl, at_kV k⟩
/-- the keys of a dict with tuples for keys -/
def ItkX (d : Addr) (o : Obj) (xs : List (List Key × Addr × Value)) : It :=
  ⟨fun i H => H d = some (.frz o (DxO d xs)) ∧ i < xs.length, fun i H x H' => H' = H ∧ ∃ q, xs[i]? = some q ∧ x = .ref q.2.1, fun i H => H d = some (.frz o (DxO d xs)) ∧ xs.length ≤ i⟩
theorem dx_frz {X : Cx} {pins : List (Addr × Obj)} {σ : L2.St} {sh : Shared} {o : Obj} {xs : List (List Key × Addr × Value)} (I : Inv X pins σ H sh) (h : H a = some (.frz o (DxO a xs))) :
    (a == sysModules) = false ∧ sh.heap.get? a = some o ∧ o.ExactDict ∧ ∃ (es : Array DictEntry) (ep : Nat), o.data = .dict es ep ∧ es.size = xs.length ∧ ∀ (i : Nat) (q : List Key × Addr × Value), xs[i]? = some q → ∃ en, es[i]? = some en ∧ en.key = .ref q.2.1 := by
  obtain ⟨g1, z1, z2, z3, o', es, ep, z4, z5, z6, z7⟩ := (show sh.heap.get? a = some o ∧ DxOk a xs sh.heap from ⟨(I.hok a _ h).1, (I.hok a _ h).2.1⟩)
  rw [g1] at z4
  cases z4
  have len : es.size = xs.length := by rw [← Array.length_toList, z7, List.length_map]
  refine ⟨z2, g1, z5, es, ep, z6, len, fun i q hq => ?_⟩
  have e1 : es.toList[i]? = some (entryOfKey (tupleKind (mixKind TB.prog TB.w)) q) := by rw [z7, List.getElem?_map, hq]; rfl
  exact ⟨_, by rw [← Array.getElem?_toList]; exact e1, rfl⟩
theorem turn_keysX {P : Program} {w : World} {tg : Expr} {o : Obj} {es : Array DictEntry} {ep : Nat} {xs : List (List Key × Addr × Value)} (it : Addr) (hod : o.data = .dict es ep) : Turn P w K tg (ItkX a o xs) [it] it (fun i h => h.IsKeyIter it a i xs.length ep) where
  mem := List.mem_singleton.mpr rfl
  obj := fun i h st b hb => by
    rw [List.mem_singleton.mp hb]
    obtain ⟨ob, e1, _, e2⟩ := st
    exact ⟨ob, e1, fun v z => by rw [e2] at z; cases z⟩
  keep := fun i h h' st k => st.at fun ob e => k it (List.mem_singleton.mpr rfl) ob e
  item := by
    rintro X hP hw hK hc i pins s σ H E I hf st ⟨hd, hi⟩
    subst hP hw hK
    obtain ⟨g0, g1, g2, g3, g4, g5⟩ := hf it (List.mem_singleton.mpr rfl)
    obtain ⟨_, at1, _, es', ep', hdt, hsz, ent⟩ := dx_frz I hd
    rw [hod] at hdt
    cases hdt
    obtain ⟨en, e1, e2⟩ := ent i xs[i] (List.getElem?_eq_getElem hi)
    refine next_key_item st at1 hod hsz e1 fun h' st' sb => ?_
    have J : Inv X pins σ H { s with heap := h' } := I.turned (t' := s.toks) (fun b ob hb z => (sb.2 b hb).trans z) g0 g1 g3 g4 g5
    obtain ⟨ob, f1, f2, f3⟩ := id st'
    refine ⟨en.key, rfl, go_of (s := { s with heap := h' }) f1 f2 f3 (by decide) ⟨.ref xs[i].2.1, H, J, e2, ⟨rfl, _, List.getElem?_eq_getElem hi, rfl⟩, st', fun b hb => (hf b hb).1⟩⟩
  done := by
    rintro X hP hw hK hc i pins s σ H E I hf st ⟨hd, hi⟩
    subst hP hw hK
    obtain ⟨g0, g1, g2, g3, g4, g5⟩ := hf it (List.mem_singleton.mpr rfl)
    obtain ⟨_, at1, _, es', ep', hdt, hsz, _⟩ := dx_frz I hd
    rw [hod] at hdt
    cases hdt
    exact next_key_end (I.ok.hd hc) st at1 hod hsz hi fun h' eb => ⟨rfl, I.turned (t' := s.toks) (fun b ob hb z => eb b ob hb z) g0 g1 g3 g4 g5⟩
  self := fun A i s Q E st h =>
    wpAny_pyIter_slot st.typeIs F.slot_dict_keyiterator_iter (wpAny_call_entry F.slot_dict_keyiterator_iter st.typeIs F.entry_dict_keyiterator_iter (show wpAny _ _ (ret (.ref it)) _ _ s from wpAny_pure ⟨_, rfl, "dict_keyiterator", _, st.typeIs, F.slot_dict_keyiterator_next.lookup, h⟩) (F.args_dict_keyiterator_iter_1 _))
def iKeysX (td : TE) : TI := fun σ H R => td σ H fun x H1 => ∃ d o xs, x = .ref d ∧ H1 d = some (.frz o (DxO d xs)) ∧ R (ItkX d o xs) H1
theorem pi_keysX {td : TE} (he : PE X e td) : PI X tg e (iKeysX td) := by
  refine ⟨fun pins s σ H R I h => thn (he.run pins s σ H _ I h) fun u s1 ⟨x, H1, J, rx, d, o, xs, ex, hd, q⟩ => ?_⟩
  subst ex
  cases rx
  obtain ⟨z1, at1, z2, es, ep, hdt, hsz, _⟩ := dx_frz J hd
  refine iter_keys z1 at1 z2 hdt (pi_one (tk := s1.toks) J _ (turn_keysX _ hdt) ⟨_, Heap.get?_push_size _ rfl, rfl, ?_⟩ q)
  rw [hsz] <;> rfl
theorem it_keysX {G : Ow → Hp → Prop} {o : Obj} {kvs : List (List Key × Addr × Value)} {ds : List (PyData × PyData)} (hk : ∀ O H, G O H → H a = some (.frz o (DxO a kvs)) ∧ AtT K O H kvs ds) (hl : kvs.length = ds.length) : ItOk K G (ItkX a o kvs) (ds.map (·.1)) where
  go i O H g hi := ⟨(hk O H g).1, by rw [hl]; simpa using hi⟩
  stop i O H g hi := ⟨(hk O H g).1, by rw [hl]; simpa using hi⟩
  yld i O H x H' d g hdm hd y := by
    obtain ⟨e, q, e1, e2⟩ := y
    subst e e2
    obtain ⟨k1, k2⟩ := (hk O H' g).2.keyAt i q e1
    rw [k1] at hd
    cases hd
    exact ⟨.inl rfl, .tup k2 (atL_kV _)⟩
/-- in a heap where the name's dict is under a lock -/
def iKeysA (td : TE) : TI := fun σ H R => iKeys td σ H R ∨ iKeysX td σ H R
theorem pi_keysA {td : TE} (he : PE X e td) : PI X tg e (iKeysA td) := ⟨fun pins s σ H R I h => h.elim ((pi_keys he).run pins s σ H R I) ((pi_keysX he).run pins s σ H R I)⟩
theorem keys_read {i : Nat} (hx : σ[i]? = some (some (.ref a))) (hf : H a = some (.frz od u)) (hu : isDi u) : ∀ R, liftI K true (tWkN i) σ H R → iKeysA (tVar i) σ H R := by
  rintro R ⟨p, O, s, Rr, d, items, e1, e2, q⟩
  have ae : AtE K O H (.ref a) d := Rr.read (r := .s i) hx e1
  have hh : ¬ p.ex a := Rr.readH (r := .s i) hx e1
  have stay : ∀ (O2 : Ow) (H2 : Hp), Stand true p O H O2 H2 → H2 a = some (.frz od u) := fun O2 H2 g => g.2 rfl a _ hf hh
  unfold itemsD at e2
  split at e2
  · obtain ⟨b, xs, ev, h1, _⟩ := ae.lst
    cases ev
    rw [hf] at h1; cases h1
  · obtain ⟨b, xs, ev, ⟨_, o, _, h1⟩, _⟩ := ae.tup
    cases ev
    rw [hf] at h1
    cases h1
    exact hu.elim
  · rename_i t kvs
    cases e2
    obtain ⟨b, ev, z⟩ := AtE.dic (t := t) ae
    cases ev
    rcases z with ⟨_, ks, r, l⟩ | ⟨_, ks, r, l⟩
    · have eu : u = .dK ks := by
        rcases r with r | ⟨o, r⟩
        · rw [hf] at r; cases r
        · rw [hf] at r; cases r; rfl
      subst eu
      exact .inl ⟨.ref a, hx, a, od, rfl, .inl ⟨ks, hf, q _ O H Rr .refl (it_keys l stay)⟩⟩
    · have eu : u = DxO a ks := by
        rcases r with r | ⟨o, r⟩
        · rw [hf] at r; exact nomatch Option.some.inj r
        · rw [hf] at r; cases r; rfl
      subst eu
      exact .inr ⟨.ref a, hx, a, od, ks, rfl, hf, q _ O H Rr .refl (it_keysX (fun O2 H2 g => ⟨stay O2 H2 g, l.to g.1⟩) l.length)⟩
  · cases e2
theorem inn_inn (G : List Sl) : (G.map Sl.inn).map Sl.inn = G.map Sl.inn := by
  rw [List.map_map]
  exact List.map_congr_left fun S _ => by cases S <;> rfl
theorem rd_inn (G : List Sl) (hd : List PyData) (i : Nat) : rd ⟨G.map Sl.inn, hd⟩ (.s i) = rd ⟨G, hd⟩ (.s i) := by
  show (G.map Sl.inn)[i]?.bind Sl.data = G[i]?.bind Sl.data
  rw [List.getElem?_map]
  cases G[i]? with
  | none => rfl
  | some S => cases S <;> rfl
theorem cRun_inn {g : PTG} {tt : PTT} {te : PTE} {vs : List Nat} {G : List Sl} : ∀ (ds out hd : List PyData) (Q : List PyData → List PyData → Prop), cRun g tt te vs G ds out hd Q = cRun g tt te vs (G.map Sl.inn) ds out hd Q
  | [], _, _, _ => rfl
  | d :: ds, out, hd, Q => by
    have e : blkG (G.map Sl.inn) vs = blkG G vs := by
      show wipeG ((G.map Sl.inn).map Sl.inn) vs = wipeG (G.map Sl.inn) vs
      rw [inn_inn]
    unfold cRun
    rw [e]
    have ih : ∀ o h, cRun g tt te vs G ds o h Q = cRun g tt te vs (G.map Sl.inn) ds o h Q := fun o h => cRun_inn ds o h Q
    simp only [ih]
theorem lcN_read {i : Nat} {g : PTG} {tt : PTT} {te : PTE} {vs ws : List Nat} {Q : VK} (hg : ∀ d s Q Q', (∀ s', Q s' → Q' s') → g d s Q → g d s Q') (ht : MonoT tt) (he : Mono te)
    (hw : ∀ w ∈ ws, w ∈ vs) (h : liftF K (tComp (tWkN i) g tt te vs) σ H Q) :
    tLc (liftI K true (tWkL (tSl i))) (liftG K ws g) (liftT K tt) (lift K te) vs σ H Q ∨ tLc (iKeysA (tVar i)) (liftG K ws g) (liftT K tt) (lift K te) vs σ H Q ∨ tLockE (tLc (iKeysA (tVar i)) (liftG K ws g) (liftT K tt) (lift K te) vs) σ H Q := by
  obtain ⟨p, O, s, R, d, items, e1, e2, hsz, q⟩ := h
  have back : (∃ ds, d = .list ds ∨ d = .tuple ds) → tLc (liftI K true (tWkL (tSl i))) (liftG K ws g) (liftT K tt) (lift K te) vs σ H Q := fun hz => by
    refine lc_read (vs := vs) (ti := tWkL (tSl i)) (fun s Q Q' w q => ?_) hg ht he hw ⟨p, O, s, R, ?_⟩
    · obtain ⟨hd, d, ds, e, z, q⟩ := q
      exact ⟨hd, d, ds, e, z, w _ _ q⟩
    · obtain ⟨ds, hz⟩ := hz
      have ei : items = ds := by rcases hz with z | z <;> subst z <;> cases e2 <;> rfl
      subst ei
      exact ⟨⟨d, e1⟩, d, items, e1, hz, hsz, q⟩
  have e20 := e2
  unfold itemsD at e2
  split at e2
  · exact .inl (back ⟨_, .inl rfl⟩)
  · exact .inl (back ⟨_, .inr rfl⟩)
  · rename_i t kvs
    cases e2
    obtain ⟨v, hx⟩ := R.val ⟨_, e1⟩
    have ae : AtE K O H v _ := R.read (r := .s i) hx e1
    obtain ⟨a, ev, z⟩ := AtE.dic (t := t) ae
    subst ev
    have hh : ¬ p.ex a := R.readH (r := .s i) hx e1
    obtain ⟨u, hu, r⟩ : ∃ u, isDi u ∧ Rd H a u := by
      rcases z with ⟨_, ks, r, _⟩ | ⟨_, ks, r, _⟩
      · exact ⟨.dK ks, (True.intro : isDi (.dK ks)), r⟩
      · exact ⟨DxO a ks, isDi.dx, r⟩
    have go : ∀ {H : Hp} {Q : VK} {od : Obj}, H a = some (.frz od u) → liftF K (tComp (tWkN i) g tt te vs) σ H Q → tLc (iKeysA (tVar i)) (liftG K ws g) (liftT K tt) (lift K te) vs σ H Q := fun {H Q od} hf h =>
      keys_read hx hf hu _ (lc_read (vs := vs) mono_wkN hg ht he hw h)
    rcases r with r | ⟨o, r⟩
    · refine .inr (.inr ⟨a, u, r, hu.mut, fun od => go upd_same ⟨⟨p.ha, upd H a (.frz od u), O⟩, O, ⟨s.G.map Sl.inn, s.hd⟩, R.lock r hu, _, _, by rw [rd_inn]; exact e1, e20, hsz, ?_⟩⟩)
      rw [← cRun_inn]
      refine cRun_mono hg ht he (fun out hd q b O' H' R' k' l' => ?_) _ _ _ q
      obtain ⟨f1, f2, f3, f4⟩ := R.unlock r hu hh R'
      refine ⟨f1, ?_⟩
      obtain ⟨l1, l2, l3, l4, l5⟩ := l'
      have l2 : upd H a (.frz od u) b = none := l2
      have nb : b ≠ a := fun z => by rw [z, upd_same] at l2; cases l2
      rw [upd_ne nb] at l2
      obtain ⟨g1, g2, g3⟩ := R.fresh l2
      refine q b O' (upd H' a u) (R.back f3 f4) f4 ⟨l1, g1, g2, ?_, g3⟩
      cases l4 with
      | lst q l => exact .lst (by rw [upd_ne nb]; exact q) (l.lk f2)
    · exact .inr (.inl (go r ⟨p, O, s, R, _, _, e1, e20, hsz, q⟩))
  · cases e2
variable {iter elt : Expr} {ifs : List Expr} {scope : Scope} {own : List (Str × Nat)}
theorem PE.or3 {t1 t2 t3 : TE} (h1 : PE X e t1) (h2 : PE X e t2) (h3 : PE X e t3) : PE X e fun σ H Q => t1 σ H Q ∨ t2 σ H Q ∨ t3 σ H Q := ⟨fun pins s σ H Q I q => by
  rcases q with q | q | q
  · exact h1.run pins s σ H Q I q
  · exact h2.run pins s σ H Q I q
  · exact h3.run pins s σ H Q I q⟩
/-- [.. for x in name ..]: a list, a tuple or a dict -/
theorem df_lcN {i : Nat} {g : PTG} {tt : PTT} {te : PTE} {ws : List Nat} (hc : X.calm = true) (hN : X.N.Nodup) (hi : PE X iter (tVar i)) (ok : BlkOk X.N X.env.scope scope own)
    (hg : Blk X scope fun Y => DG Y tg ws g) (ht : Blk X scope fun Y => DTs Y ifs tt) (he : Blk X scope fun Y => DE Y elt te) (hw : ∀ w ∈ ws, w ∈ own.map (·.2)) (hs : ∀ x, foldedSetIterable iter X.env x = pure x := by intro _; rfl) :
    DF X (.ListComp elt [⟨tg, iter, ifs, 0⟩] scope pos) (tComp (tWkN i) g tt te (own.map (·.2))) := by
  have h0 := hg X.s_0 X.H_0 0 [] []
  have h1 := ht X.s_0 X.H_0 0 [] []
  have h2 := he X.s_0 X.H_0 0 [] []
  have a1 := fun {wi : TI} (h : PI X tg iter wi) => pe_lc (g := liftG X.K ws g) (tt := liftT X.K tt) (te := lift X.K te) (elt := elt) (ifs := ifs) (pos := pos) hc hN h ok (fun s H C cl fp => (hg s H C cl fp).pg) (fun s H C cl fp => (ht s H C cl fp).pt) (fun s H C cl fp => (he s H C cl fp).pe) hs
  exact ⟨PE.weak (PE.or3 (a1 (di_seqL (dl_pe hi)).pi) (a1 (pi_keysA hi)) (pe_lock (a1 (pi_keysA hi)))) fun σ H Q q => lcN_read h0.mono h1.mono h2.mono hw q, mono_comp mono_wkN h0.mono h1.mono h2.mono⟩
theorem PS.or3 {st : Stmt} {t1 t2 t3 : TS} (h1 : PS X st t1) (h2 : PS X st t2) (h3 : PS X st t3) : PS X st fun D σ H => t1 D σ H ∨ t2 D σ H ∨ t3 D σ H := ⟨fun pins s σ H D I q => by
  rcases q with q | q | q
  · exact h1.run pins s σ H D I q
  · exact h2.run pins s σ H D I q
  · exact h3.run pins s σ H D I q⟩
theorem ds_setLcN {i j : Nat} {y : Str} {py spos : Pos} {g : PTG} {tt : PTT} {te : PTE} {ws : List Nat} (hc : X.calm = true) (hN : X.N.Nodup) (hy : X.N[j]? = some y) (hyl : X.env.scope.names.lookup y = some .local)
    (hsw : swapsWith (.ListComp elt [⟨tg, iter, ifs, 0⟩] scope pos) (some (.Name y py)) spos.line X.env = pure true) (hi : PE X iter (tVar i)) (ok : BlkOk X.N X.env.scope scope own)
    (hg : Blk X scope fun Y => DG Y tg ws g) (ht : Blk X scope fun Y => DTs Y ifs tt) (he : Blk X scope fun Y => DE Y elt te) (hw : ∀ w ∈ ws, w ∈ own.map (·.2)) (hs : ∀ x, foldedSetIterable iter X.env x = pure x := by intro _; rfl) :
    DS X (.Assign [.Name y py] (.ListComp elt [⟨tg, iter, ifs, 0⟩] scope pos) spos) (tAs true (tComp (tWkN i) g tt te (own.map (·.2))) j) := by
  have h0 := hg X.s_0 X.H_0 0 [] []
  have h1 := ht X.s_0 X.H_0 0 [] []
  have h2 := he X.s_0 X.H_0 0 [] []
  have hm := mono_comp (vs := own.map (·.2)) (mono_wkN (i := i)) h0.mono h1.mono h2.mono
  have a1 := fun {wi : TI} (h : PI X tg iter wi) => ps_setLc (g := liftG X.K ws g) (tt := liftT X.K tt) (te := lift X.K te) (elt := elt) (ifs := ifs) (pos := pos) (py := py) (spos := spos) hc hN hy hyl hsw h ok (fun s H C cl fp => (hg s H C cl fp).pg) (fun s H C cl fp => (ht s H C cl fp).pt) (fun s H C cl fp => (he s H C cl fp).pe) hs
  refine ⟨PS.weak (PS.or3 (a1 (di_seqL (dl_pe hi)).pi) (a1 (pi_keysA hi)) (ps_lock (a1 (pi_keysA hi)))) fun D σ H q => ?_, mono_as hm⟩
  obtain ⟨p, O, s, R, q⟩ := q
  have z := lcN_read (Q := fun v H1 => gName j v σ H1 D.nx) h0.mono h1.mono h2.mono hw (σ := σ) (H := H) ⟨p, O, s, R, hm _ _ _ (fun d s' q a O' H' R' k' l => q _ O' H' (R'.setx (fr := true) ⟨a, rfl, l⟩) k') q⟩
  exact z
end
end PD
end
section
set_option Elab.async false
set_option linter.all false
set_option maxRecDepth 100000
set_option maxHeartbeats 4000000
/-! PD23: dict(enumerate(t)) of a tuple; list(d.items()). -/
namespace PD
variable [TB]
open PySem PySem.Spec PyProof.Rows L2
section
variable {prog : Program} {w : World} {A : Around} {E : Value → Shared → Prop} {s : Shared}
/-- the next pair of an enumerate over a tuple, the pair before still there -/
theorem enumT_held {en it tp T : Addr} {i : Nat} {vs : Array Value} {x last : Value} {fl : Bool} {oT : Obj} {Q : Value → Shared → Prop}
    (hen : IsEnumHeld s.heap en it i last T fl) (hT : s.heap.get? T = some oT) (n1 : T ≠ en) (n2 : T ≠ it) (hit : s.heap.IsTupleIter it tp i) (htp : s.heap.IsTuple tp vs) (hx : vs[i]? = some x) (n3 : en ≠ it)
    (k : ∀ h', IsEnumHeld h' en it ((i : Int) + 1) last T true → h'.IsTupleIter it tp (i + 1) → h'.get? s.heap.objs.size = some { cls := .type "tuple", data := .seq #[.int i s.toks, x] } →
      (∀ b o, b ≠ en → b ≠ it → s.heap.get? b = some o → h'.get? b = some o) → Q (.ref s.heap.objs.size) { s with heap := h', toks := s.toks + 1 }) :
    wpAny (model prog w) A (Builtin.«enumerate.__next__» ⟨[.ref en], []⟩) (fun z s2 => ∃ v, z = .done (.ret v) ∧ Q v s2) E s := by
  obtain ⟨hp, g, d, tk, os⟩ := s
  have lt : en < hp.objs.size := Heap.lt_size hen
  show wpAny _ _ (field (.ref en) 2 >>= _) _ _ _
  refine wpAny_bind (wpAny_field hen rfl (x := .ref it) rfl (wpAny_bind (wpAny_nextOf_tuple_item hit htp hx fun h1 hit1 sb1 => ?_)))
  have sb1 : Heap.SameBut it hp h1 := sb1
  have hen1 : IsEnumHeld h1 en it i last T fl := (sb1.2 en n3).trans hen
  show wpAny _ _ (field (.ref en) 3 >>= _) _ _ ⟨h1, g, d, tk, os⟩
  refine wpAny_bind (wpAny_field hen1 rfl (x := rawInt i) rfl ?_)
  show wpAny _ _ (field (.ref en) 4 >>= _) _ _ ⟨h1, g, d, tk, os⟩
  refine wpAny_bind (wpAny_field hen1 rfl (x := .none) rfl ?_)
  show wpAny _ _ (mkInt i >>= _) _ _ ⟨h1, g, d, tk, os⟩
  refine wpAny_bind (wpAny_mkInt ?_)
  show wpAny _ _ (setField (.ref en) 3 (rawInt ((i : Int) + 1)) >>= _) _ _ ⟨h1, g, d, tk + 1, os⟩
  refine wpAny_bind (wpAny_setField_rec hen1 (by simp) fun h2 hen2 sb2 => ?_)
  have sb2 : Heap.SameBut en h1 h2 := sb2
  have hen2 : IsEnumHeld h2 en it ((i : Int) + 1) last T fl := hen2
  show wpAny _ _ (setField (.ref en) 4 .none >>= _) _ _ ⟨h2, g, d, tk + 1, os⟩
  refine wpAny_bind (wpAny_setField_rec hen2 (by simp) fun h3 hen3 sb3 => ?_)
  have sb3 : Heap.SameBut en h2 h3 := sb3
  have hen3 : IsEnumHeld h3 en it ((i : Int) + 1) last T fl := hen3
  show wpAny _ _ (newTuple [.int i tk, x] >>= _) _ _ ⟨h3, g, d, tk + 1, os⟩
  have sz : h3.objs.size = hp.objs.size := sb3.1.trans (sb2.1.trans sb1.1)
  have old3 : ∀ b o, b ≠ en → b ≠ it → hp.get? b = some o → h3.get? b = some o := fun b o e1 e2 e => (sb3.2 b e1).trans ((sb2.2 b e1).trans ((sb1.2 b e2).trans e))
  have hit3 : h3.IsTupleIter it tp (i + 1) := (hit1.extBut sb2.extBut (Ne.symm n3)).extBut sb3.extBut (Ne.symm n3)
  refine wpAny_bind (wpAny_newTuple ?_)
  obtain ⟨h4, eh4⟩ : ∃ h4, h4 = h3.push { cls := .type "tuple", data := .seq #[.int i tk, x] } := ⟨_, rfl⟩
  rw [← eh4]
  have up : ∀ b o, h3.get? b = some o → h4.get? b = some o := fun b o e => by rw [eh4]; exact Heap.get?_push_of_some _ e
  have hen4 : IsEnumHeld h4 en it ((i : Int) + 1) last T fl := up _ _ hen3
  have new4 : h4.get? hp.objs.size = some { cls := .type "tuple", data := .seq #[.int i tk, x] } := by rw [eh4, ← sz]; exact Heap.get?_push_size _ rfl
  show wpAny _ _ (Builtin.SmallTypes.ownedTupleIsFree (.ref en) >>= _) _ _ ⟨h4, g, d, tk + 1, os⟩
  rw [sz]
  refine wpAny_bind (wpAny_tupleHeld_enum (s := ⟨h4, g, d, tk + 1, os⟩) hen4 (up _ _ (old3 T oT n1 n2 hT)) fun h5 hen5 sb5 => ?_)
  have sb5 : Heap.SameBut en h4 h5 := sb5
  simp only [Bool.false_eq_true, if_false]
  refine wpAny_pure ⟨_, rfl, k h5 hen5 ?_ ((sb5.2 _ (Nat.ne_of_gt lt)).trans new4) fun b o e1 e2 e => (sb5.2 b e1).trans (up _ _ (old3 b o e1 e2 e))⟩
  obtain ⟨o, ho, r⟩ := hit3
  exact ⟨o, (sb5.2 it (Ne.symm n3)).trans (up _ _ ho), r⟩
theorem next_enumT_held {en it tp T : Addr} {i : Nat} {vs : Array Value} {x last : Value} {fl : Bool} {oT : Obj} {Q : Option Value → Shared → Prop}
    (hen : IsEnumHeld s.heap en it i last T fl) (hT : s.heap.get? T = some oT) (n1 : T ≠ en) (n2 : T ≠ it) (hit : s.heap.IsTupleIter it tp i) (htp : s.heap.IsTuple tp vs) (hx : vs[i]? = some x) (n3 : en ≠ it)
    (k : ∀ h', IsEnumHeld h' en it ((i : Int) + 1) last T true → h'.IsTupleIter it tp (i + 1) → h'.get? s.heap.objs.size = some { cls := .type "tuple", data := .seq #[.int i s.toks, x] } →
      (∀ b o, b ≠ en → b ≠ it → s.heap.get? b = some o → h'.get? b = some o) → Q (some (.ref s.heap.objs.size)) { s with heap := h', toks := s.toks + 1 }) :
    wpAny (model prog w) A (pyNext (.ref en)) Q E s := by
  have ty : s.TypeIs (.ref en) "enumerate" := ⟨_, hen, rfl⟩
  unfold pyNext
  exact wpAny_bind (wpAny_attempt (wpAny_callSpecial?_slot (name := Str.ofString "__next__") ty F.slot_enumerate_next (wpAny_call_entry F.slot_enumerate_next ty F.entry_enumerate_next (enumT_held hen hT n1 n2 hit htp hx n3 fun h' a b c d => wpAny_pure (k h' a b c d)) (F.args_enumerate_next_1 _))))
theorem next_enumT_over {en it tp T : Addr} {i : Nat} {vs : Array Value} {last : Value} {fl : Bool} {Q : Option Value → Shared → Prop} (hh : A.handled = none) (hen : IsEnumHeld s.heap en it i last T fl) (hit : s.heap.IsTupleIter it tp i) (htp : s.heap.IsTuple tp vs) (hx : vs[i]? = none)
    (k : ∀ h', Heap.ExtBut it s.heap h' → Q none { s with heap := h' }) : wpAny (model prog w) A (pyNext (.ref en)) Q E s := by
  have ty : s.TypeIs (.ref en) "enumerate" := ⟨_, hen, rfl⟩
  unfold pyNext
  refine wpAny_bind (wpAny_attempt (wpAny_callSpecial?_slot (name := Str.ofString "__next__") ty F.slot_enumerate_next (wpAny_call_entry F.slot_enumerate_next ty F.entry_enumerate_next ?_ (F.args_enumerate_next_1 _))))
  show wpAny _ _ (field (.ref en) 2 >>= _) _ _ _
  refine wpAny_bind (wpAny_field hen rfl (x := .ref it) rfl (wpAny_bind (wpAny_nextOf_tuple_end hh hit htp hx fun h2 e e1 e2 => ?_)))
  obtain ⟨u, u1, u2⟩ := e2
  exact wpAny_bind (wpAny_isInstance (T := "StopIteration") (b := true) ⟨u, u1, u2⟩ isSubtype_stop (wpAny_pure (k _ e1)))
end
section
variable {prog : Program} {w : World}
/-- enumerate(t) of a tuple, as what dict() takes -/
theorem pairs_enumT (en it tp : Addr) (n1 : en ≠ it) (n2 : tp ≠ en) (n3 : tp ≠ it) (vs : Array Value) :
    PairArg prog w "enumerate" en [en, it, tp] [en, it] vs.size (fun i k v => (∃ t, k = .int i t) ∧ vs[i]? = some v) (fun h => (∃ last, IsEnum h en it 0 last) ∧ h.IsTupleIter it tp 0 ∧ h.IsTuple tp vs) where
  type := fun s ⟨⟨_, he⟩, _⟩ => ⟨_, he, rfl⟩
  notDict := by decide
  keep := fun h h' ⟨⟨last, he⟩, hit, hl⟩ hk => ⟨⟨last, hk _ _ he⟩, hit.at fun o z => hk _ o z, hl.at fun o z => hk _ o z⟩
  there := fun h ⟨⟨_, he⟩, ⟨_, h1, _⟩, ⟨_, h2, _⟩⟩ b hb => by
    have hb : b = en ∨ b = it ∨ b = tp := by simpa using hb
    rcases hb with z | z | z <;> subst z
    · exact ⟨_, he⟩
    · exact ⟨_, h1⟩
    · exact ⟨_, h2⟩
  sub := fun b hb => by
    have hb : b = en ∨ b = it := by simpa using hb
    rcases hb with z | z <;> simp [z]
  noKeys := fun A s Q E hA ⟨⟨_, he⟩, _⟩ h => getAttrOr_miss_enumerate he rfl rfl rfl enumerate_no_keys (by decide +kernel) hA h
  iter := fun A s d Q E hA ok hd hdf h => by
    obtain ⟨⟨last, he⟩, hit, hl⟩ := ok
    have hdf : d ≠ en ∧ d ≠ it ∧ d ≠ tp := by simpa using hdf
    obtain ⟨m1, m2, m3⟩ := hdf
    refine wpAny_pyIter_enum he (h en [en, it] (fun i h => h.IsTupleIter it tp i ∧ h.IsTuple tp vs ∧ ((∃ last, IsEnum h en it i last) ∨ ∃ last T fl oT, IsEnumHeld h en it i last T fl ∧ h.get? T = some oT ∧ T ≠ en ∧ T ≠ it ∧ T ≠ d)) s.heap s.toks ?_ ⟨hit, hl, Or.inl ⟨last, he⟩⟩ (fun _ _ e => e) fun b hb => Or.inl hb)
    refine ⟨fun hm => ?_, fun i h1 h2 st hk => ?_, fun i s1 Q1 E1 hi st hds hQ => ?_, fun s1 Q1 E1 st hQ => ?_⟩
    · have hm : d = en ∨ d = it := by simpa using hm
      rcases hm with z | z
      · exact m1 z
      · exact m2 z
    · obtain ⟨hit, hl, he⟩ := st
      refine ⟨hit.at fun o z => hk _ o (Ne.symm m2) z, hl.at fun o z => hk _ o (Ne.symm m3) z, ?_⟩
      rcases he with ⟨last, he⟩ | ⟨last, T, fl, oT, he, hT, r1, r2, r3⟩
      · exact Or.inl ⟨last, hk _ _ (Ne.symm m1) he⟩
      · exact Or.inr ⟨last, T, fl, oT, hk _ _ (Ne.symm m1) he, hk _ _ r3 hT, r1, r2, r3⟩
    · obtain ⟨hit, hl, he⟩ := st
      have ex : vs[i]? = some vs[i] := Array.getElem?_eq_getElem hi
      have ec : ((i + 1 : Nat) : Int) = (i : Int) + 1 := by omega
      have offL : ∀ (b : Addr) (o : Obj), b ∉ [en, it] → b ≠ en ∧ b ≠ it := fun b o hb => ⟨fun z => hb (by simp [z]), fun z => hb (by simp [z])⟩
      rcases he with ⟨last, he⟩ | ⟨last, T, fl, oT, he, hT, r1, r2, r3⟩
      · have nit : s1.heap.objs.size ≠ it := by obtain ⟨_, z, _⟩ := hit; exact Nat.ne_of_gt (Heap.lt_size z)
        refine wpAny_pyNext_enum_itemD (Draws.tuple (prog := prog) (w := w) (A := A.in1) hA it tp n3 vs) he ⟨hit, hl⟩ hi n1 (by simp only [List.mem_cons, List.not_mem_nil, or_false, not_or]; exact ⟨n1, Ne.symm n2⟩) fun y h' tk hy ho st' hT hz hk => ?_
        have hy : vs[i]? = some y := hy
        rw [ex] at hy
        cases hy
        exact hQ s1.heap.objs.size _ _ h' (tk + 1) ⟨⟨_, rfl⟩, ex⟩ (Or.inl ⟨_, hT, rfl, _, rfl⟩) ⟨st'.1, st'.2, Or.inr ⟨_, s1.heap.objs.size, false, _, (by rw [ec]; exact ho), hT, Nat.ne_of_gt (Heap.lt_size he), nit, Nat.ne_of_gt hds⟩⟩ fun b o hb z => hk b o (offL b o hb).1 (offL b o hb).2 z
      · refine next_enumT_held he hT r1 r2 hit hl ex n1 fun h' ho hit' hT' hk => ?_
        exact hQ s1.heap.objs.size _ _ h' (s1.toks + 1) ⟨⟨_, rfl⟩, ex⟩ (Or.inl ⟨_, hT', rfl, _, rfl⟩) ⟨hit', hl.at fun o z => hk tp o n2 n3 z, Or.inr ⟨last, T, true, oT, (by rw [ec]; exact ho), hk _ _ r1 r2 hT, r1, r2, r3⟩⟩ fun b o hb z => hk b o (offL b o hb).1 (offL b o hb).2 z
    · obtain ⟨hit, hl, he⟩ := st
      have hx : vs[vs.size]? = none := Array.getElem?_eq_none (Nat.le_refl _)
      rcases he with ⟨last, he⟩ | ⟨last, T, fl, oT, he, hT, r1, r2, r3⟩
      · exact enumT_end hA he hit hl hx fun h' hk => hQ h' s1.toks fun b o hb z => hk b o (fun y => hb (by simp [y])) z
      · exact next_enumT_over hA he hit hl hx fun h' hk => hQ h' s1.toks fun b o hb z => hk b o (fun y => hb (by simp [y])) z
end

section
variable {X : Cx} {e : Expr} {te : TE} {p1 p2 p3 apos cpos pos : Pos}
/-- dict(enumerate(t)) -/
def tDictEn (K : PySem.W.Frag) (te : TE) : TE := fun σ H Q => te σ H fun x H1 => ∃ a xs, x = .ref a ∧ SqT K H1 a xs ∧ xs.length ≤ sizeLine ∧ ∀ D, H1 D = none → Q (.ref D) (upd H1 D (.dK (mergeK [] (xs.mapIdx fun i y => ((Sum.inl (i : Int) : Key), y)))))
theorem pe_dictEnum (hc : X.calm = true) (hg : Gl X "dict") (hm : X.mg "dict" = none) (hg2 : Gl X "enumerate") (hm2 : X.mg "enumerate" = none) (he : PE X e te) (hs : starEach [e] X.env = (false, eval e X.env) :: starEach [] X.env := by rfl)
    (hs2 : starEach [.Call (.Name "enumerate" p2) [e] [] p3] X.env = (false, eval (.Call (.Name "enumerate" p2) [e] [] p3) X.env) :: starEach [] X.env := by rfl) (hv : bootBuiltins "dict" = some (.type "dict") := by decide +kernel) :
    PE X (.Call (.Name "dict" p1) [.Call (.Name "enumerate" p2) [e] [] p3] [] pos) (tDictEn X.K te) := by
  refine ⟨fun pins s σ H Q I q => ?_⟩
  refine Call_ (ld_blt I hg hm hv (PyProof.Rows.callWith_type1 (args_cons ?_ hs2) hs2))
  refine Call_ (ld_blt I hg2 hm2 boot_enumerate (PyProof.Rows.callWith_type1 (args_cons (thn (he.run pins s σ H _ I q) fun v s1 ⟨x, H1, I1, r1, a, xs, ex, hq, hz, q1⟩ => args_nil ?_) hs) hs))
  subst ex
  obtain rfl : v = Value.ref a := r1
  obtain ⟨its, rv, pl, _⟩ := I1.tuple hq
  have la : a < s1.heap.objs.size := by obtain ⟨o, ho, _⟩ := pl; exact Heap.lt_size ho
  refine call_enumT (begins_tuple a its.toArray) pl fun h' h1 h2 k => args_nil ?_
  have I2 : Inv X pins σ H1 { s1 with heap := h' } := I1.kept (t' := s1.toks) k
  obtain ⟨prs, hprs⟩ : ∃ prs : List (Key × Value), prs = its.mapIdx fun i u => ((Sum.inl (i : Int) : Key), u) := ⟨_, rfl⟩
  have rel : KV (xs.mapIdx fun i y => ((Sum.inl (i : Int) : Key), y)) prs := by
    rw [hprs]
    have go : ∀ (l : List V) (m : List Value) (f : Nat → Key), Vals l m → KV (l.mapIdx fun i y => (f i, y)) (m.mapIdx fun i u => (f i, u)) := fun l => by
      induction l with
      | nil => intro m f r; cases r; exact .nil
      | cons y l ih =>
        intro m f r
        cases r with
        | cons r1 r2 =>
          rw [List.mapIdx_cons, List.mapIdx_cons]
          exact .cons ⟨rfl, r1⟩ (ih _ (fun i => f (i + 1)) r2)
    exact go xs its _ rv
  have lp : prs.length = its.length := by rw [hprs]; simp
  have lx : xs.length = its.length := rv.length
  refine PySem.call_dict_pairs (knd := mixKind X.prog X.w) (kvs := prs) (pairs_enumT (s1.heap.objs.size + 1) s1.heap.objs.size a (Nat.succ_ne_self _) (Nat.ne_of_lt (Nat.lt_succ_of_lt la)) (Nat.ne_of_lt la) its.toArray) (I1.ok.hd hc) ⟨⟨.none, h1⟩, ⟨_, h2, rfl, rfl⟩, (show s1.heap.IsTuple a its.toArray from pl).at fun o z => k _ o z⟩ ⟨by rw [lp]; simp, fun i key v ⟨⟨t, ek⟩, ev⟩ => ?_⟩ (by simp; omega) fun h2' tk hd hk => ?_
  · subst ek
    refine ⟨Sum.inl (i : Int), ?_, keyIs_int _ t⟩
    rw [hprs, List.getElem?_mapIdx]
    have : its[i]? = some v := by simpa using ev
    rw [this]; rfl
  · have hm : (h'.objs.size == sysModules) = false := beq_eq_false_iff_ne.mpr (Nat.ne_of_gt I2.big)
    have kv : KV (mergeK [] (xs.mapIdx fun i y => ((Sum.inl (i : Int) : Key), y))) (merged [] prs) := KV.merge rel .nil
    have ln : (mergeK [] (xs.mapIdx fun i y => ((Sum.inl (i : Int) : Key), y))).length ≤ sizeLine := by
      refine Nat.le_trans (length_mergeK _ []) ?_
      simp; omega
    have le1 : s1.heap.objs.size + 1 < h'.objs.size := Heap.lt_size h1
    refine ⟨.ref h'.objs.size, upd H1 h'.objs.size (.dK (mergeK [] (xs.mapIdx fun i y => ((Sum.inl (i : Int) : Key), y)))), I1.laid (t' := tk) (fun b u z => ?_) (by omega) ⟨ln, hm, _, kv, hd⟩, rfl, q1 _ (I1.hok.fresh (by omega))⟩
    have lb := Heap.lt_size z
    refine hk b u ?_ (k b u z)
    simp only [List.mem_cons, List.not_mem_nil, or_false, not_or]
    exact ⟨Nat.ne_of_lt (Nat.lt_succ_of_lt lb), Nat.ne_of_lt lb⟩
/-- list(d.items()), whether a lock lies on d or not -/
def tItemsR (te : TE) : TE := fun σ H Q => te σ H fun x H1 => ∃ (d : Addr) (kvs : List (Key × V)), x = .ref d ∧ Rd H1 d (.dK kvs) ∧
  ∀ (H' : Hp) (p : Addr) (ts : List Addr), (∀ b o, H1 b = some o → H' b = some o) → H1 p = none → (∀ t ∈ ts, H1 t = none) → H' p = some (.lst (ts.map V.ref)) → ts.length = kvs.length → (∀ (i : Nat) (t : Addr), ts[i]? = some t → ∃ q, kvs[i]? = some q ∧ TupF H' t [kV q.1, q.2]) → Q (.ref p) H'
theorem pe_itemsR (hc : X.calm = true) (he : PE X e te) (hg : Gl X "list") (hm : X.mg "list" = none) (hv : bootBuiltins "list" = some (.type "list") := by decide +kernel) (hbase : attributeBase e "items" X.env (eval e X.env) = eval e X.env := by rfl) (hline : (apos.endLine == cpos.line) = true := by rfl)
    (hs : starEach [.Call (.Attribute e "items" apos) [] [] cpos] X.env = (false, eval (.Call (.Attribute e "items" apos) [] [] cpos) X.env) :: starEach [] X.env := by rfl) :
    PE X (.Call (.Name "list" p1) [.Call (.Attribute e "items" apos) [] [] cpos] [] pos) (tItemsR te) := by
  refine ⟨fun pins s σ H Q I hq => wpAny_Call_Name_kw (ld_blt I hg hm hv (PyProof.Rows.callWith_type1 ?_ hs rfl))⟩
  rw [hs]
  show wpAny _ _ (spliced ((false, eval (.Call (.Attribute e "items" apos) [] [] cpos) X.env) :: backTo pos (starEach [] X.env))) _ _ s
  refine Calls.spliced_cons (wpAny_Call_method (T := "dict") (id := "dict.items") hbase rfl hline F.plainAttrs_dict F.slot_dict_items F.type_dict_items (thn (he.run pins s σ H _ I hq) fun u s1 ⟨x, H1, I1, rx, d, kvs, ex, rd, q⟩ => ?_))
  subst ex
  obtain rfl : u = Value.ref d := rx
  obtain ⟨hz, hs0, vs, kv, hdo⟩ := rd.ok I1.hok
  obtain ⟨ep, hat⟩ := hdo.dictAt
  have lk : kvs.length = vs.length := Paired.length kv
  have J0 : Inv X pins σ H1 { s1 with heap := s1.heap.push { cls := .type "dict_items", data := .fields #[.ref d] } } := I1.kept (t' := s1.toks) fun b ob z => Heap.get?_push_of_some _ z
  refine ⟨hdo.typeIs, hdo.mapOf.noDict, ?_⟩
  show wpAny _ _ (callWith cpos (.builtin "dict.items") [.ref d] [] []) _ X.xe s1
  refine method_meetsIn F.slot_dict_items F.entry_dict_items rfl (PySem.evalArgs_none ⟨rfl, hdo.typeIs, F.args_dict_items_1 _, _, meets_dict_items (mixKind X.prog X.w) d hs0, ⟨vs, hdo⟩, Calls.spliced_nil ?_⟩)
  refine PySem.W.kdx_call (knd := mixKind X.prog X.w) (kvs := vs) (ep := ep) (I1.ok.hd hc) ⟨_, Heap.get?_push_size _ rfl, rfl, rfl⟩ (hat.push _) (by omega) fun h' tk acc c as hk hS hl hG hacc => ?_
  obtain ⟨H', k1, k2, k3, k5, k6, J⟩ := items_laidF (tk := tk) J0 hz kv hk hS hl hG hacc
  exact ⟨.ref _, H', J, rfl, q H' _ as k1 k2 k3 k5 (hl.trans lk.symm) k6⟩
end

/-! ### over data -/
section
variable {K : PySem.W.Frag} {X : Cx} {p : Pm} {O O' : Ow} {σ σ' : L2.St} {H H' : Hp} {s s' : PSt} {v : V} {d : PyData} {a : Addr} {e : Expr} {pos p1 p2 p3 apos cpos : Pos} {te : PTE} {tl : PTL}
theorem Rl.grow (R : Rl K p O σ H s) (g : ∀ b o, H b = some o → H' b = some o) : Rl K p O σ H' s ∧ Kp O H O H' := by
  have k : Kp O H O H' := ⟨fun b o e _ => g b o e, fun _ n _ => n⟩
  have same : ∀ b, H b ≠ none → H' b = H b := fun b n => by
    cases e : H b with
    | none => exact absurd e n
    | some o => exact g b o e
  refine ⟨⟨R.len, fun i S e => ?_, R.inj, fun b e => ?_, fun b o e n => g b o (R.frm b o e n), fun b z => by rw [same b (R.dom b z).ne]; exact R.dom b z, R.o0, R.od, R.ob, ⟨R.tbo.own, R.tbo.tab.ext g⟩⟩, k⟩
  · have q := R.sl i S e
    cases S with
    | no => trivial
    | v d => obtain ⟨y, e1, e2⟩ := q; exact ⟨y, e1, e2.to k⟩
    | m d => obtain ⟨b, e1, e2, e3, e4, e5⟩ := q; exact ⟨b, e1, e2, e3, e4, e5.to k (same b e5.some)⟩
    | b d => obtain ⟨b, e1, e2, e3, e4⟩ := q; exact ⟨b, e1, e2, e3, e4.to k (same b e4.some)⟩
    | h => exact q
  · obtain ⟨e1, xs, e2, e3⟩ := R.hand b e
    exact ⟨e1, xs, g b _ e2, e3.to k⟩
/-- a row merged into a dict -/
def mergeD (ds : List (PyData × PyData)) (more : List (PyData × PyData)) : List (PyData × PyData) := more.foldl (fun acc q => insD q.1 q.2 acc) ds
theorem AtK.merge {kvs : List (Key × V)} {ds : List (PyData × PyData)} (h : AtK K O H kvs ds) : ∀ {more : List (Key × V)} {ms : List (PyData × PyData)}, AtK K O H more ms → AtK K O H (mergeK kvs more) (mergeD ds ms) := fun {more ms} m => by
  induction more generalizing kvs ds ms with
  | nil => cases m; exact h
  | cons q more ih =>
    cases m with
    | cons m1 m2 => exact ih (h.put m1) m2
/-- new dicts as shared data -/
theorem fin_dK {q : Addr} {kvs : List (Key × V)} {ds : List (PyData × PyData)} (R : Rl K p O σ H s) (hq : H q = none) (l : AtK K O H kvs ds) :
    Rl K p O σ (upd H q (.dK kvs)) s ∧ Kp O H O (upd H q (.dK kvs)) ∧ At K O (upd H q (.dK kvs)) (.ref q) (dicD false ds) :=
  ⟨R.new hq, Kp.new hq, .dicK (R.nown hq) (.inl upd_same) (l.to (Kp.new hq))⟩
theorem lone_dK {q : Addr} {kvs : List (Key × V)} {ds : List (PyData × PyData)} (R : Rl K p O σ H s) (hq : H q = none) (l : AtK K O H kvs ds) :
    Rl K p (O.with q) σ (upd H q (.dK kvs)) s ∧ Kp O H (O.with q) (upd H q (.dK kvs)) ∧ Lone K p (O.with q) σ (upd H q (.dK kvs)) s q (dicD false ds) :=
  ⟨R.newOwn hq, Kp.newOwn hq, .inr rfl, (R.fresh hq).1, (R.fresh hq).2.1, .dicK upd_same (l.to (Kp.newOwn hq)), (R.fresh hq).2.2⟩
def enKD (ds : List PyData) : List (PyData × PyData) := ds.mapIdx fun i d => (.int (i : Nat), d)
@[simp] def tDE (t : PTE) : PTE := fun s Q => t s fun d s' => ∃ ds, d = .tuple ds ∧ ds.length ≤ sizeLine ∧ Q (dicD false (mergeD [] (enKD ds))) s'
theorem atK_en {xs : List V} {ds : List PyData} (h : AtL K O H xs ds) : AtK K O H (xs.mapIdx fun i y => ((Sum.inl (i : Int) : Key), y)) (enKD ds) := by
  have go : ∀ (xs : List V) (ds : List PyData) (f : Nat → Nat), AtL K O H xs ds → AtK K O H (xs.mapIdx fun i y => ((Sum.inl ((f i : Nat) : Int) : Key), y)) (ds.mapIdx fun i d => (.int ((f i : Nat) : Int), d)) := fun xs => by
    induction xs with
    | nil => intro ds f h; cases h; exact .nil
    | cons x xs ih =>
      intro ds f h
      cases h with
      | cons h1 h2 =>
        rw [List.mapIdx_cons, List.mapIdx_cons]
        exact .cons (k := Sum.inl ((f 0 : Nat) : Int)) h1 (ih _ (fun i => f (i + 1)) h2)
  exact go xs ds id h
theorem df_dictEn (hc : X.calm = true) (hg : Gl X "dict") (hm : X.mg "dict" = none) (hg2 : Gl X "enumerate") (hm2 : X.mg "enumerate" = none) (he : DE X e te) (hs : starEach [e] X.env = (false, eval e X.env) :: starEach [] X.env := by rfl)
    (hs2 : starEach [.Call (.Name "enumerate" p2) [e] [] p3] X.env = (false, eval (.Call (.Name "enumerate" p2) [e] [] p3) X.env) :: starEach [] X.env := by rfl) :
    DF X (.Call (.Name "dict" p1) [.Call (.Name "enumerate" p2) [e] [] p3] [] pos) (tDE te) :=
  ⟨PE.weak (pe_dictEnum hc hg hm hg2 hm2 he.pe hs hs2) fun σ H Q ⟨p, O, s, R, q⟩ => ⟨p, O, s, R, he.mono _ _ _ (fun d s' ⟨ds, ed, hz, k⟩ v O' H' R' k' av => by
      subst ed
      cases av with
      | tup h1 h2 =>
        refine ⟨_, _, rfl, h1.sq, by rw [h2.len]; exact hz, fun D hD => ?_⟩
        obtain ⟨f1, f2, f3⟩ := lone_dK R' hD (AtK.merge .nil (atK_en h2))
        exact k _ _ _ f1 (k'.trans f2) f3) q⟩,
    fun s Q Q' w q => he.mono _ _ _ (fun d s' ⟨ds, ed, hz, k⟩ => ⟨ds, ed, hz, w _ _ k⟩) q⟩
/-- list(d.items()) -/
def itemsOfD : PyData → Option (List PyData)
  | .dict ((.bool false, .none) :: ds) => some (ds.map fun q => .tuple [q.1, q.2])
  | _ => none
@[simp] theorem itemsOfD_dic (ds : List (PyData × PyData)) : itemsOfD (dicD false ds) = some (ds.map fun q => .tuple [q.1, q.2]) := rfl
@[simp] def tItems (t : PTL) : PTE := fun s Q => t s fun r s' => ∃ d l, rd s' r = some d ∧ itemsOfD d = some l ∧ Q (.list l) s'
theorem de_items (hc : X.calm = true) (he : DL X e tl) (hg : Gl X "list") (hm : X.mg "list" = none) (hbase : attributeBase e "items" X.env (eval e X.env) = eval e X.env := by rfl) (hline : (apos.endLine == cpos.line) = true := by rfl)
    (hs : starEach [.Call (.Attribute e "items" apos) [] [] cpos] X.env = (false, eval (.Call (.Attribute e "items" apos) [] [] cpos) X.env) :: starEach [] X.env := by rfl) :
    DE X (.Call (.Name "list" p1) [.Call (.Attribute e "items" apos) [] [] cpos] [] pos) (tItems tl) :=
  ⟨PE.weak (pe_itemsR hc he.pe hg hm (by decide +kernel) hbase hline hs) fun σ H Q ⟨p, O, s, R, q⟩ => ⟨p, O, s, R, he.mono _ _ _ (fun r s' ⟨d, l, er, el, k⟩ v O' H' R' k' av => by
      have ae := R'.read av er
      unfold itemsOfD at el
      split at el
      · rename_i ds
        cases el
        obtain ⟨b, ev, z⟩ := AtE.dic (t := false) ae
        subst ev
        rcases z with ⟨_, kvs, r1, l1⟩ | ⟨z, _⟩
        · refine ⟨b, kvs, rfl, r1, fun H2 q2 ts g hq hts e1 el e2 => ?_⟩
          obtain ⟨R2, k2⟩ := R'.grow g
          refine k _ O' H2 R2 (k'.trans k2) (.lst ⟨R'.nown hq, e1⟩ ?_)
          have go : ∀ (ts : List Addr) (kvs : List (Key × V)) (ds : List (PyData × PyData)), ts.length = kvs.length → (∀ t ∈ ts, H' t = none) → (∀ (i : Nat) (t : Addr), ts[i]? = some t → ∃ q, kvs[i]? = some q ∧ TupF H2 t [kV q.1, q.2]) → AtK X.K O' H' kvs ds → AtL X.K O' H2 (ts.map V.ref) (ds.map fun q => .tuple [q.1, q.2]) := fun ts => by
            induction ts with
            | nil =>
              intro kvs ds hl _ _ h2
              have := List.eq_nil_of_length_eq_zero hl.symm
              subst this
              cases h2; exact .nil
            | cons t ts ih =>
              intro kvs ds hl hn h1 h2
              cases h2 with
              | nil => cases hl
              | cons b1 b2 =>
                obtain ⟨q, q1, q2⟩ := h1 0 t rfl
                cases q1
                exact .cons (.tup ⟨R'.nown (hn t List.mem_cons_self), q2⟩ (.cons (at_kV _) (.cons (b1.to k2) .nil))) (ih _ _ (by simpa using hl) (fun y hy => hn y (List.mem_cons_of_mem _ hy)) (fun i y hy => h1 (i + 1) y hy) b2)
          exact go ts kvs ds el hts e2 l1
        · cases z
      · cases el) q⟩,
    fun s Q Q' w q => he.mono _ _ _ (fun r s' ⟨d, l, er, el, k⟩ => ⟨d, l, er, el, w _ _ k⟩) q⟩
/-- the rows of pairs as what a dict is made of -/
def pairsD : List PyData → Option (List (PyData × PyData))
  | [] => some []
  | .tuple [k, d] :: ds => if keyFits false k = true then (pairsD ds).map ((k, d) :: ·) else none
  | _ => none
def dictD : List PyData → Option (List (PyData × PyData))
  | [.list ds] => pairsD ds
  | _ => none
theorem atK_pairs {xs : List V} : ∀ {ds : List PyData} {ps : List (PyData × PyData)}, AtL K O H xs ds → pairsD ds = some ps → ∃ (as : List Addr) (kvs : List (Key × V)), xs = as.map V.ref ∧ Paired (fun p kv => SqT K H p [kV kv.1, kv.2]) as kvs ∧ AtK K O H kvs ps := by
  induction xs with
  | nil =>
    intro ds ps h e
    cases h
    cases e
    exact ⟨[], [], rfl, .nil, .nil⟩
  | cons x xs ih =>
    intro ds ps h e
    cases h with
    | cons h1 h2 =>
      rename_i d ds
      unfold pairsD at e
      split at e
      · rename_i h; cases h
      · rename_i k d' ds' heq
        injection heq with e1 e2
        subst e1 e2
        split at e
        · rename_i hk
          cases e3 : pairsD ds with
          | none => rw [e3] at e; cases e
          | some ps' =>
            rw [e3] at e
            cases e
            obtain ⟨as, kvs, ex, hp, ha⟩ := ih h2 e3
            subst ex
            obtain ⟨k', rfl⟩ := keyOf_some (show (keyOf k).isSome = true from hk)
            cases h1 with
            | tup s1 l1 =>
              cases l1 with
              | cons c1 l1 =>
                cases l1 with
                | cons c2 l1 =>
                  cases l1
                  have ek := c1.key
                  subst ek
                  exact ⟨_ :: as, (k', _) :: kvs, rfl, .cons s1.sq hp, .cons c2 ha⟩
        · cases e
      · cases e
@[simp] def tDic (t : PTLs) : PTE := fun s Q => t s fun rs s' => ∃ ds ps, rds s' rs = some ds ∧ dictD ds = some ps ∧ Q (dicD false (mergeD [] ps)) s'
theorem df_dict {t : PTLs} (hc : X.calm = true) (ha : DLs X [e] t) (hg : Gl X "dict") (hm : X.mg "dict" = none) (hs : starEach [e] X.env = (false, eval e X.env) :: starEach [] X.env := by rfl) (hpl : (backTo pos (starEach ([] : List Expr) X.env)).any (·.1) = false := by rfl) :
    DF X (.Call (.Name "dict" p1) [e] [] pos) (tDic t) :=
  ⟨PE.weak (pe_callTy (call_dictP hc) hg hm bt_dict ha.pa (by decide) (by decide) hs hpl) fun σ H Q ⟨p, O, s, R, q⟩ => ⟨p, O, s, R, ha.mono _ _ _ (fun rs s' ⟨ds, ps, e1, e2, q⟩ vs O' H' R' k' a => by
      have ae := R'.reads a e1
      unfold dictD at e2
      split at e2
      · obtain ⟨v, rfl, av⟩ := ae.one
        obtain ⟨b, xs, rfl, h1, h2⟩ := av.lst
        obtain ⟨as, kvs, ex, hp, hk⟩ := atK_pairs h2 e2
        subst ex
        refine ⟨b, as, kvs, rfl, SqL.of h1, hp, fun D hD => ?_⟩
        obtain ⟨f1, f2, f3⟩ := lone_dK R' hD (AtK.merge .nil hk)
        exact q _ _ _ f1 (k'.trans f2) f3
      · cases e2) q⟩,
    fun s Q Q' w q => ha.mono _ _ _ (fun rs s' ⟨ds, ps, e1, e2, q⟩ => ⟨ds, ps, e1, e2, w _ _ q⟩) q⟩
end
end PD
end
section
set_option Elab.async false
set_option linter.all false
set_option maxRecDepth 100000
set_option maxHeartbeats 4000000
/-! PD24: dict comprehensions (keys numbers or texts); str(number). -/
namespace PD
variable [TB]
open PySem PySem.Spec PyProof.Rows L2
section
variable {K : PySem.W.Frag} {X : Cx} {p : Pm} {O O' : Ow} {σ σ' : L2.St} {H H' : Hp} {s s' : PSt} {v : V} {d : PyData} {a : Addr} {e ea eb tg : Expr} {es : List Expr} {pos ppos : Pos}
/-- the turns of a dict comprehension -/
def dRun (g : PTG) (tt : PTT) (tk tv : PTE) (vs : List Nat) (G : List Sl) : List PyData → List (PyData × PyData) → List PyData → (List (PyData × PyData) → List PyData → Prop) → Prop
  | [], out, hd, Q => Q out hd
  | d :: ds, out, hd, Q => g d ⟨blkG G vs, hd⟩ fun s1 => tt s1 fun b s2 => if b = true then tk s2 fun k s3 => tv s3 fun y s4 => keyFits false k = true ∧ dRun g tt tk tv vs G ds (insD k y out) s4.hd Q else dRun g tt tk tv vs G ds out s2.hd Q
theorem dRun_mono {g : PTG} {tt : PTT} {tk tv : PTE} {vs : List Nat} {G : List Sl} (hg : ∀ d s Q Q', (∀ s', Q s' → Q' s') → g d s Q → g d s Q') (ht : MonoT tt) (hk : Mono tk) (hv : Mono tv) {Q Q' : List (PyData × PyData) → List PyData → Prop} (w : ∀ o h, Q o h → Q' o h) :
    ∀ (ds : List PyData) (out : List (PyData × PyData)) (hd : List PyData), dRun g tt tk tv vs G ds out hd Q → dRun g tt tk tv vs G ds out hd Q'
  | [], _, _, q => w _ _ q
  | d :: ds, out, hd, q => hg _ _ _ _ (fun s1 => ht _ _ _ fun b s2 q => by
      cases b with
      | true => exact hk _ _ _ (fun k s3 => hv _ _ _ fun y s4 ⟨f, q⟩ => ⟨f, dRun_mono hg ht hk hv w ds _ _ q⟩) q
      | false => exact dRun_mono hg ht hk hv w ds _ _ q) q
@[simp] def tDcomp (ti : PTI) (g : PTG) (tt : PTT) (tk tv : PTE) (vs : List Nat) : PTE := fun s Q => ti s fun items s1 => items.length ≤ sizeLine ∧ dRun g tt tk tv vs s1.G items [] s1.hd fun out hd => Q (dicD false out) { s1 with hd := hd }
theorem insD_len (k d : PyData) (ds : List (PyData × PyData)) : (insD k d ds).length ≤ ds.length + 1 := by
  unfold insD
  split <;> simp
variable {iter kx vx : Expr} {ifs : List Expr} {scope : Scope} {own : List (Str × Nat)}
theorem dc_read {ti : PTI} {g : PTG} {tt : PTT} {tk tv : PTE} {vs ws : List Nat} {Q : VK} (hi : ∀ s Q Q', (∀ d s', Q d s' → Q' d s') → ti s Q → ti s Q') (hg : ∀ d s Q Q', (∀ s', Q s' → Q' s') → g d s Q → g d s Q') (ht : MonoT tt) (hk : Mono tk) (hv : Mono tv)
    (hw : ∀ w ∈ ws, w ∈ vs) (h : liftF K (tDcomp ti g tt tk tv vs) σ H Q) : tDc (liftI K true ti) (liftG K ws g) (liftT K tt) (lift K tk) (lift K tv) vs σ H Q := by
  obtain ⟨p, O, s, R, q⟩ := h
  refine ⟨p, O, s, R, hi _ _ _ (fun items s1 ⟨hsz, q1⟩ J O1 H1 R1 k1 it D hD => ?_) q⟩
  obtain ⟨f0, fh, fm⟩ := R1.fresh hD
  generalize hF : (fun out hd => ∀ a O' H', Rl K p O' σ H' { s1 with hd := hd } → Kp O H O' H' → Lone K p O' σ H' { s1 with hd := hd } a (dicD false out) → Q (.ref a) H' : List (PyData × PyData) → List PyData → Prop) = F at q1
  let S : Nat → Hp → Prop := fun i H => ∃ O2 out acc hd, Rl K p O2 σ H { s1 with hd := hd } ∧ Stand true p O1 H1 O2 H ∧ O2 D ∧ H D = some (.dK acc) ∧ AtK K O2 H acc out ∧ out.length ≤ i ∧ dRun g tt tk tv vs s1.G (items.drop i) out hd F
  refine ⟨fun i m H => m = items.length - i ∧ i ≤ items.length ∧ S i H, ⟨items.length, by simp, Nat.zero_le _, O1.with D, [], [], s1.hd, R1.newOwn hD, ⟨Kp.newOwn hD, fun _ a o e n => ?_⟩, .inr rfl, upd_same, .nil, Nat.le_refl _, q1⟩, ?_⟩
  · rw [upd_ne fun z => by rw [z, hD] at e; cases e]; exact e
  · rintro i m H2 ⟨rfl, hle, O2, out, acc, hd, R2, st, oD, eD, al, ol, c⟩
    by_cases hlt : i < items.length
    · refine .inr ⟨it.go i O2 H2 st hlt, S (i + 1), fun H' w => ⟨items.length - (i + 1), by omega, rfl, hlt, w⟩, fun x H3 y => ?_⟩
      obtain ⟨alt, ax⟩ := it.yld i O2 H2 x H3 items[i] st R2.dom (List.getElem?_eq_getElem hlt) y
      have step : Rl K p O2 σ H3 { s1 with hd := hd } ∧ Kp O2 H2 O2 H3 ∧ ∀ a o, H2 a = some o → H3 a = some o := by
        rcases alt with z | ⟨b, o, hb, z⟩
        · subst z; exact ⟨R2, .refl, fun _ _ h => h⟩
        · subst z
          exact ⟨R2.new hb, Kp.new hb, fun a u e => by rw [upd_ne fun z => by rw [z, hb] at e; cases e]; exact e⟩
      obtain ⟨R3, k3, st3⟩ := step
      rw [List.drop_eq_getElem_cons hlt] at c
      have RB := R3.into vs
      have fin : ∀ {O4 σ4 H4} {s4 : PSt}, Rl K ⟨p.ha, H3, O2⟩ O4 σ4 H4 s4 → Kp O2 H3 O4 H4 → Rl K p O4 σ H4 { s1 with hd := s4.hd } ∧ Stand true p O1 H1 O4 H4 ∧ O4 D ∧ H4 D = some (.dK acc) ∧ AtK K O4 H4 acc out := fun {O4 σ4 H4 s4} R4 k4 =>
        ⟨R3.back R4 k4, ⟨st.1.trans (k3.trans k4), fun _ a o e n => R4.frm a o (st3 a o (st.2 rfl a o e n)) n⟩, R4.o0 D oD, R4.frm D _ (st3 D _ eD) fh, al.to (k3.trans k4)⟩
      refine ⟨⟨p.ha, H3, O2⟩, O2, _, items[i], RB, ax, hg _ _ _ _ (fun sA qA σA RA uA => ⟨by rw [uA vs hw, wipe_idem], ⟨p.ha, H3, O2⟩, O2, sA, RA, ht _ _ _ (fun b sB qB O4 H4 R4 k4 => ?_) qA⟩) c⟩
      cases b with
      | true =>
        refine ⟨⟨p.ha, H3, O2⟩, O4, sB, R4, hk _ _ _ (fun kd sC qC kv O5 H5 R5 k5 ak => ⟨⟨p.ha, H3, O2⟩, O5, sC, R5, hv _ _ _ (fun y sE ⟨ff, qE⟩ u O6 H6 R6 k6 au => ?_) qC⟩) qB⟩
        obtain ⟨k', rfl⟩ := keyOf_some (show (keyOf kd).isSome = true from ff)
        have ek := ak.key
        subst ek
        obtain ⟨g1, g2, g3, g4, g5⟩ := fin R6 (k4.trans (k5.trans k6))
        obtain ⟨R7, k7⟩ := g1.putD (o := .dK (putK acc k' u)) g3 f0 fh fm
        refine ⟨acc, k', rfl, g4, by rw [g5.length]; omega, O6, insD (keyD k') y out, putK acc k' u, sE.hd, R7, ⟨g2.1.trans k7, fun _ a o e n => ?_⟩, g3, upd_same, (g5.to k7).put (au.to k7), Nat.le_trans (insD_len _ _ _) (Nat.succ_le_succ ol), qE⟩
        rw [upd_ne fun z => by rw [z, hD] at e; cases e]
        exact g2.2 rfl a o e n
      | false =>
        obtain ⟨g1, g2, g3, g4, g5⟩ := fin R4 k4
        exact ⟨O4, out, acc, sB.hd, g1, g2, g3, g4, g5, Nat.le_succ_of_le ol, qB⟩
    · have ei : i = items.length := by omega
      subst ei
      rw [List.drop_length] at c
      refine .inl ⟨it.stop _ O2 H2 st (Nat.le_refl _), ?_⟩
      subst hF
      exact c D O2 H2 R2 (k1.trans st.1) ⟨oD, f0, fh, .dicK eD al, fm⟩
theorem mono_dcomp {ti : PTI} {g : PTG} {tt : PTT} {tk tv : PTE} {vs : List Nat} (hi : ∀ s Q Q', (∀ d s', Q d s' → Q' d s') → ti s Q → ti s Q') (hg : ∀ d s Q Q', (∀ s', Q s' → Q' s') → g d s Q → g d s Q') (ht : MonoT tt) (hk : Mono tk) (hv : Mono tv) : Mono (tDcomp ti g tt tk tv vs) :=
  fun s Q Q' w q => hi _ _ _ (fun items s1 ⟨z, q⟩ => ⟨z, dRun_mono hg ht hk hv (fun o h => w _ _) _ _ _ q⟩) q
theorem df_dc {ti : PTI} {g : PTG} {tt : PTT} {tk tv : PTE} {ws : List Nat} (hc : X.calm = true) (hN : X.N.Nodup) (hi : DI X true tg iter ti) (ok : BlkOk X.N X.env.scope scope own)
    (hg : Blk X scope fun Y => DG Y tg ws g) (ht : Blk X scope fun Y => DTs Y ifs tt) (hk : Blk X scope fun Y => DE Y kx tk) (hv : Blk X scope fun Y => DE Y vx tv) (hw : ∀ w ∈ ws, w ∈ own.map (·.2)) (hs : ∀ x, foldedSetIterable iter X.env x = pure x := by intro _; rfl) :
    DF X (.DictComp kx vx [⟨tg, iter, ifs, 0⟩] scope pos) (tDcomp ti g tt tk tv (own.map (·.2))) := by
  have h0 := hg X.s_0 X.H_0 0 [] []
  have h1 := ht X.s_0 X.H_0 0 [] []
  have h2 := hk X.s_0 X.H_0 0 [] []
  have h3 := hv X.s_0 X.H_0 0 [] []
  exact ⟨PE.weak (pe_dc hc hN hi.pi ok (fun s H C cl fp => (hg s H C cl fp).pg) (fun s H C cl fp => (ht s H C cl fp).pt) (fun s H C cl fp => (hk s H C cl fp).pe) (fun s H C cl fp => (hv s H C cl fp).pe) hs) fun σ H Q q => dc_read hi.mono h0.mono h1.mono h2.mono h3.mono hw q, mono_dcomp hi.mono h0.mono h1.mono h2.mono h3.mono⟩
/-- a dict comprehension over typed items, the hand left -/
theorem dRun_of {α : Type} {g : PTG} {tk tv : PTE} {vs : List Nat} {G : List Sl} {hd : List PyData} (c : α → PyData) (f h : α → PyData) (l : List α)
    (hh : ∀ a ∈ l, keyFits false (f a) = true ∧ ∀ (Y : PyData → PyData → List PyData → Prop), Y (f a) (h a) hd → g (c a) ⟨blkG G vs, hd⟩ fun s1 => tk s1 fun k s3 => tv s3 fun y s4 => Y k y s4.hd)
    (hm : ∀ s Q Q', (∀ d s', Q d s' → Q' d s') → tk s Q → tk s Q') (hm2 : ∀ s Q Q', (∀ d s', Q d s' → Q' d s') → tv s Q → tv s Q') (hm3 : ∀ d s Q Q', (∀ s', Q s' → Q' s') → g d s Q → g d s Q')
    (out : List (PyData × PyData)) (Q : List (PyData × PyData) → List PyData → Prop) (q : Q (mergeD out (l.map fun a => (f a, h a))) hd) : dRun g tYs tk tv vs G (l.map c) out hd Q := by
  induction l generalizing out with
  | nil => exact q
  | cons a l ih =>
    rw [List.map_cons]
    unfold dRun
    obtain ⟨h1, h2⟩ := hh a List.mem_cons_self
    have z := h2 (fun k y hd' => k = f a ∧ y = h a ∧ hd' = hd) ⟨rfl, rfl, rfl⟩
    refine hm3 _ _ _ _ (fun s1 => ?_) z
    intro z
    show tk s1 _
    refine hm _ _ _ (fun k s3 => hm2 _ _ _ fun y s4 ⟨e1, e2, e3⟩ => ?_) z
    subst e1 e2
    rw [e3]
    exact ⟨h1, ih (fun x hx => hh x (List.mem_cons_of_mem _ hx)) _ q⟩
/-! ### str(i) -/
def strD : List PyData → Option PyData
  | [.int i] => if i.natAbs.log2 < 1920 then some (.str (toString i)) else none
  | [.str x] => some (.str x)
  | _ => none
theorem call_strP : CallD X (.type "str") strD := by
  intro pins sh σ H xs us Q I rv h
  obtain ⟨O, ds, z, a, e, k, _, _⟩ := h
  unfold strD at e
  split at e
  · split at e
    · rename_i i hz
      cases e
      obtain ⟨v, rfl, av⟩ := a.one
      cases av.int
      obtain ⟨u, rfl, t, rfl⟩ := vals1 rv
      exact PySem.P.str_of_int hz ⟨.str _, H, I.tok _, ⟨_, rfl⟩, k _ (.str _)⟩
    · cases e
  · cases e
    obtain ⟨v, rfl, av⟩ := a.one
    cases av.str
    obtain ⟨u, rfl, t, rfl⟩ := vals1 rv
    exact PySem.P.str_of_str ⟨.str _, H, I, ⟨t, rfl⟩, k _ (.str _)⟩
  · cases e
end
end PD
end
section
set_option Elab.async false
set_option linter.all false
set_option maxRecDepth 100000
set_option maxHeartbeats 4000000
/-! PD25: calls that only look at what a name alone holds; their answers are flat. -/
namespace PD
variable [TB]
open PySem PySem.Spec PyProof.Rows L2
def flatD : PyData → Bool
  | .none => true
  | .bool _ => true
  | .int _ => true
  | .str _ => true
  | _ => false
@[simp] theorem flatD_bool (b : Bool) : flatD (.bool b) = true := rfl
@[simp] theorem flatD_int (i : Int) : flatD (.int i) = true := rfl
@[simp] theorem flatD_none : flatD .none = true := rfl
@[simp] theorem flatD_str (x : Str) : flatD (.str x) = true := rfl
section
variable {K : PySem.W.Frag} {X : Cx} {p : Pm} {O O' : Ow} {σ σ' : L2.St} {H H' : Hp} {s s' : PSt} {v : V} {d : PyData} {a : Addr} {e : Expr} {es : List Expr} {pos : Pos}
theorem At.flat (h : At K O H v d) (f : flatD d = true) : At K O' H' v d := by
  cases h <;> first | exact .non | exact .bl _ | exact .int _ | exact .str _ | cases f
theorem AtE.none' (h : AtE K O H v d) : At K (fun _ => False) H v d := h.at0
theorem AtEL.avs {vs : List V} {ds : List PyData} (h : AtEL K O H vs ds) : AvL K (fun _ => False) none H vs (ds.map .d) := by
  induction ds generalizing vs with
  | nil => cases h; exact .nil
  | cons d ds ih =>
    cases h with
    | cons h1 h2 => exact .d h1.at0 (ih h2)
theorem Rl.readT {r : Rv} (R : Rl K p O σ H s) (h : RvOk K p O σ H v r) (e : rd s r = some d) : At K Tb H v d := by
  rcases R.read h e with z | ⟨b, rfl, z⟩
  · exact z.to (Kp.less fun b t => R.tbo.ow t)
  · exact z.free (fun t => R.readH h e (.inr t)) fun b t => R.tbo.ow t
theorem Rl.readsT (R : Rl K p O σ H s) : ∀ {vs : List V} {rs : List Rv} {ds : List PyData}, RvL K p O σ H vs rs → rds s rs = some ds → AvL K Tb none H vs (ds.map .d)
  | _, _, _, .nil, e => by cases e; exact .nil
  | _, _, ds, .cons (r := r) (rs := rs) h t, e => by
    unfold rds at e
    cases e1 : rd s r with
    | none => rw [e1] at e; cases e
    | some d =>
      cases e2 : rds s rs with
      | none => rw [e1, e2] at e; cases e
      | some ds' =>
        rw [e1, e2] at e
        cases e
        exact .d (R.readT h e1) (Rl.readsT R t e2)
@[simp] def tFnB (F : FSpec) (t : PTLs) : PTE := fun s Q => t s fun rs s' => ∃ ds, rds s' rs = some ds ∧ F (ds.map .d) s'.hd (fun d _ => flatD d = true ∧ Q d s') fun _ _ => False
theorem de_callLook {CX : CXT} {k : Nat} {f : Addr} {fd : FuncData} {ps : List Str} {F : FSpec} {x : Str} {p' : Pos} {t : PTLs} (G : FnG X.prog X.w X.K X.mg X.base CX k f fd ps (spD X.K false F)) (hF : MonoF F) (hr : RoomG k X.A) (hg : Gl X x) (hm : X.mg x = some (.ref f)) (hk : PySem.W.keepIn X.K (.ref f) = true) (hb : Binds X.K fd ps []) (hx : Passes CX X E0)
    (ha : DLs X (e :: es) t) (hdb : (x == ("__debug__" : Str)) = false := by decide) (he : starEach (e :: es) X.env = (false, eval e X.env) :: starEach es X.env := by rfl) (hpl : (backTo pos (starEach es X.env)).any (·.1) = false := by rfl) :
    DE X (.Call (.Name x p') (e :: es) [] pos) (tFnB F t) := by
  refine ⟨PE.weak (pe_callG G hr hg hm hk hb .nil hx ha.pa hdb he hpl) fun σ H Q ⟨p, O, s, R, q⟩ => ⟨p, O, s, R, ha.mono _ _ _ (fun rs s' ⟨ds, er, q⟩ vs O' H' R' k' a => ?_) q⟩, fun s Q Q' w q => ha.mono _ _ _ (fun rs s' ⟨ds, er, q⟩ => ⟨ds, er, hF _ _ _ _ _ _ (fun d _ ⟨z, q⟩ => ⟨z, w _ _ q⟩) (fun _ _ z => z) q⟩) q⟩
  show spD X.K _ F (vs ++ []) H' Q E0
  rw [List.append_nil]
  refine ⟨Tb, none, ds.map .d, s'.hd, ⟨(fun _ z => nomatch z), ⟨fun q hq => ⟨q, hq, rfl⟩, R'.tbo.tab⟩⟩, (fun b t => by obtain ⟨ps, e⟩ := R'.tbo.at t; rw [e]; exact True.intro), R'.readsT a er, hF _ _ _ _ _ _ (fun d hd ⟨fl, q⟩ v H2 f h a2 => ?_) (fun _ _ z => z.elim) q⟩
  have f2 : Fram p.ha H' H2 := fun b o e n => f b o e fun z => n (z.elim (fun z => nomatch z) .inr)
  have k2 := f2.kp (hd := s'.hd) R'
  have R2 := R'.called (hd' := s'.hd) f2 ⟨fun b e => by
    obtain ⟨h1, xs, h2, h3⟩ := R'.hand b e
    exact ⟨h1, xs, f b _ h2 fun z => z.elim (fun z => nomatch z) fun t => R'.tbo.no h2 (fun ps z => nomatch z) t, h3.to k2⟩, ⟨R'.tbo.own, h.tbo.tab⟩⟩
  exact q v O' H2 R2 (k'.trans k2) (At.flat (show At X.K Tb H2 v d from a2) fl)
end
end PD
end
section
set_option Elab.async false
set_option linter.all false
set_option maxRecDepth 100000
set_option maxHeartbeats 4000000
/-! PM3: rows of numbers by their order, the least of such; dicts with numbers for keys. -/
namespace PD
variable [TB]
open PySem PySem.Spec PySem.SeqAt PySem.W PyProof.Rows L2
def lx : List Nat → List Nat → Bool
  | [], [] => false
  | [], _ :: _ => true
  | _ :: _, [] => false
  | x :: xs, y :: ys => if x = y then lx xs ys else decide (x < y)
theorem lx_toks : ∀ xs ys : List Nat, PyProof.Rows.lexLt itemOrd (PySem.W.keyToksAll (xs.map nD)) (PySem.W.keyToksAll (ys.map nD)) = lx xs ys := fun xs ys => by
  have e : ∀ l : List Nat, l.map nD = (l.map Int.ofNat).map PySem.W.Datum.toD := fun l => by rw [List.map_map]; rfl
  rw [e, e, PySem.W.lexAll_map]
  induction xs generalizing ys with
  | nil => cases ys <;> rfl
  | cons x xs ih =>
    cases ys with
    | nil => rfl
    | cons y ys =>
      have ih := ih ys
      show (if (x : Int) = (y : Int) then PySem.W.listLt (xs.map Int.ofNat) (ys.map Int.ofNat) else decide ((x : Int) < (y : Int))) = (if x = y then lx xs ys else decide (x < y))
      rw [ih]
      by_cases h : x = y
      · rw [if_pos h, if_pos (by omega)]
      · rw [if_neg h, if_neg (by omega)]
        exact decide_eq_decide.mpr (by omega)
theorem lt_nT (l m : List Nat) : PySem.W.dataLt (nT l) (nT m) = lx l m := by
  rw [nT, nT, PySem.W.dataLt_tuple, lx_toks]
theorem lx_self : ∀ l : List Nat, lx l l = false
  | [] => rfl
  | x :: l => by rw [lx, if_pos rfl]; exact lx_self l
theorem lx_trans : ∀ a b c : List Nat, lx a b = true → lx b c = true → lx a c = true
  | [], [], _, h, _ => by cases h
  | [], _ :: _, [], _, h => by cases h
  | [], _ :: _, _ :: _, _, _ => rfl
  | _ :: _, [], _, h, _ => by cases h
  | _ :: _, _ :: _, [], _, h => by cases h
  | x :: a, y :: b, z :: c, h, g => by
    rw [lx] at h g ⊢
    by_cases e1 : x = y
    · rw [if_pos e1] at h
      by_cases e2 : y = z
      · rw [if_pos e2] at g
        rw [if_pos (by omega)]
        exact lx_trans a b c h g
      · rw [if_neg e2] at g
        rw [if_neg (by omega)]
        simp at g ⊢; omega
    · rw [if_neg e1] at h
      by_cases e2 : y = z
      · rw [if_neg (by omega)]
        simp at h ⊢; omega
      · rw [if_neg e2] at g
        simp at h g
        rw [if_neg (by omega)]
        simp; omega
theorem lx_total : ∀ a b : List Nat, lx a b = false → lx b a = false → a = b
  | [], [], _, _ => rfl
  | [], _ :: _, h, _ => by cases h
  | _ :: _, [], _, h => by cases h
  | x :: a, y :: b, h, g => by
    rw [lx] at h g
    by_cases e1 : x = y
    · rw [if_pos e1] at h
      rw [if_pos e1.symm] at g
      rw [e1, lx_total a b h g]
    · rw [if_neg e1] at h
      rw [if_neg (fun z => e1 z.symm)] at g
      simp at h g
      omega
theorem lx_down {u v w : List Nat} (h : lx u v = false) (g : lx w u = false) : lx w v = false := by
  cases e : lx w v with
  | false => rfl
  | true =>
    cases e2 : lx v u with
    | true => rw [lx_trans w v u e e2] at g; cases g
    | false => rw [lx_total u v h e2] at g; rw [g] at e; cases e
structure Least (P : List Nat → Prop) (r : List Nat) : Prop where
  mem : P r
  le : ∀ r', P r' → lx r' r = false
theorem Least.uniq {P : List Nat → Prop} {r s : List Nat} (h : Least P r) (g : Least P s) : r = s := lx_total _ _ (g.le r h.mem) (h.le s g.mem)
/-- the same further on: neither is a beginning of the other -/
theorem lx_app : ∀ (a b s t : List Nat), lx a b = false → (b <+: a → b = a) → (b = a → lx s t = false) → lx (a ++ s) (b ++ t) = false
  | [], [], s, t, _, _, k => k rfl
  | [], _ :: _, _, _, h, _, _ => by cases h
  | x :: a, [], _, _, _, p, _ => by cases p (List.nil_prefix)
  | x :: a, y :: b, s, t, h, p, k => by
    rw [lx] at h
    show lx (x :: (a ++ s)) (y :: (b ++ t)) = false
    rw [lx]
    by_cases e : x = y
    · subst e
      rw [if_pos rfl] at h ⊢
      refine lx_app a b s t h (fun q => ?_) fun q => k (by rw [q])
      have := p (List.prefix_cons_inj x |>.mpr q)
      exact (List.cons.inj this).2
    · rw [if_neg e] at h ⊢
      exact h
def mnF (x : List Nat) (l : List (List Nat)) : List Nat := l.foldl (fun a y => if lx y a = true then y else a) x
def mnL : List (List Nat) → List Nat
  | [] => []
  | x :: l => mnF x l
theorem mnF_ok : ∀ (l : List (List Nat)) (x : List Nat), (mnF x l = x ∨ mnF x l ∈ l) ∧ lx x (mnF x l) = false ∧ ∀ y ∈ l, lx y (mnF x l) = false
  | [], x => ⟨.inl rfl, lx_self x, fun y h => nomatch h⟩
  | y :: l, x => by
    have down : ∀ {u v w : List Nat}, lx u v = false → lx w u = false → lx w v = false := fun {u v w} h g => by
      cases e : lx w v with
      | false => rfl
      | true =>
        cases e2 : lx v u with
        | true => rw [lx_trans w v u e e2] at g; cases g
        | false => rw [lx_total u v h e2] at g; rw [g] at e; cases e
    obtain ⟨h1, h2, h3⟩ := mnF_ok l (if lx y x = true then y else x)
    show (mnF (if lx y x = true then y else x) l = x ∨ mnF (if lx y x = true then y else x) l ∈ y :: l) ∧ lx x (mnF (if lx y x = true then y else x) l) = false ∧ ∀ z ∈ y :: l, lx z (mnF (if lx y x = true then y else x) l) = false
    by_cases e : lx y x = true
    · rw [if_pos e] at h1 h2 h3 ⊢
      have xy : lx x y = false := by
        cases q : lx x y with
        | false => rfl
        | true => have := lx_trans _ _ _ e q; rw [lx_self] at this; cases this
      refine ⟨.inr ?_, down h2 xy, fun z hz => ?_⟩
      · rcases h1 with q | q
        · rw [q]; exact List.mem_cons_self
        · exact List.mem_cons_of_mem _ q
      · rcases List.mem_cons.mp hz with q | q
        · rw [q]; exact h2
        · exact h3 z q
    · rw [if_neg e] at h1 h2 h3 ⊢
      refine ⟨?_, h2, fun z hz => ?_⟩
      · rcases h1 with q | q
        · exact .inl q
        · exact .inr (List.mem_cons_of_mem _ q)
      · rcases List.mem_cons.mp hz with q | q
        · rw [q]; exact down h2 (by simpa using e)
        · exact h3 z q
theorem mnL_ok {l : List (List Nat)} (h : l ≠ []) : mnL l ∈ l ∧ ∀ y ∈ l, lx y (mnL l) = false := by
  cases l with
  | nil => exact absurd rfl h
  | cons x l =>
    obtain ⟨h1, h2, h3⟩ := mnF_ok l x
    refine ⟨?_, fun y hy => ?_⟩
    · rcases h1 with q | q
      · show mnF x l ∈ _
        rw [q]; exact List.mem_cons_self
      · exact List.mem_cons_of_mem _ q
    · rcases List.mem_cons.mp hy with q | q
      · rw [q]; exact h2
      · exact h3 y q
theorem minD_nT (l : List (List Nat)) : ∀ x, PySem.W.minD (nT x) (l.map nT) = nT (mnF x l) := by
  unfold PySem.W.minD mnF
  induction l with
  | nil => exact fun _ => rfl
  | cons y l ih =>
    intro x
    rw [List.map_cons, List.foldl_cons, List.foldl_cons]
    have e : (if PySem.W.dataLt (nT y) (nT x) = true then nT y else nT x) = nT (if lx y x = true then y else x) := by
      rw [lt_nT]; split <;> rfl
    rw [e]
    exact ih _
theorem alikeAll_nD : ∀ xs ys : List Nat, PySem.W.alikeAll (xs.map nD) (ys.map nD) = true
  | [], _ => by rw [List.map_nil, PySem.W.alikeAll]
  | _ :: _, [] => by rw [List.map_nil, List.map_cons, PySem.W.alikeAll]
  | x :: xs, y :: ys => by
    rw [List.map_cons, List.map_cons, PySem.W.alikeAll, alikeAll_nD xs ys]
    simp [nD, PySem.W.alike]
theorem alike_nT (l m : List Nat) : PySem.W.alike (nT l) (nT m) = true := by
  simp only [nT, PySem.W.alike]; exact alikeAll_nD l m
theorem okMin_nT {l : List (List Nat)} (h : l ≠ []) : okMin (l.map nT) = true := by
  cases l with
  | nil => exact absurd rfl h
  | cons x l =>
    have h1 : PyData.plainAll ((x :: l).map nT) = true := plainAll_of fun d h => by
      obtain ⟨l, _, rfl⟩ := List.mem_map.mp h
      simp [nT]
    have h2 : PyData.depthAll ((x :: l).map nT) ≤ 60 := depthAll_le fun d h => by
      obtain ⟨l, _, rfl⟩ := List.mem_map.mp h
      simp [nT]
    have h3 : ((x :: l).map nT).all (fun a => ((x :: l).map nT).all fun b => PySem.W.alike a b) = true := List.all_eq_true.mpr fun a ha => List.all_eq_true.mpr fun b hb => by
      obtain ⟨m, _, rfl⟩ := List.mem_map.mp ha
      obtain ⟨n, _, rfl⟩ := List.mem_map.mp hb
      exact alike_nT m n
    have h4 : ((x :: l).map nT).all (fun a => !(isNone a)) = true := List.all_eq_true.mpr fun a ha => by
      obtain ⟨m, _, rfl⟩ := List.mem_map.mp ha
      rfl
    show (PyData.plainAll ((x :: l).map nT) && ((x :: l).map nT).all (fun a => ((x :: l).map nT).all fun b => PySem.W.alike a b) && ((x :: l).map nT).all (fun a => !(isNone a)) && decide (PyData.depthAll ((x :: l).map nT) ≤ 60)) = true
    rw [h1, h3, h4, decide_eq_true h2]
    rfl
theorem minOf_nT {l : List (List Nat)} (h : l ≠ []) : minOfD [.list (l.map nT)] = some (nT (mnL l)) := by
  cases l with
  | nil => exact absurd rfl h
  | cons x l =>
    have := okMin_nT (l := x :: l) (by simp)
    unfold minOfD
    rw [List.map_cons] at this ⊢
    simp only [this, if_true, minD_nT]
    rfl
/-! ### a dict with numbers for keys -/
theorem same_nD (m n : Nat) : sameK (nD m) (nD n) ↔ n = m := by
  have h := @same_k _ (.inl (m : Int)) (.inl (n : Int))
  have h : sameK (nD m) (nD n) ↔ (Sum.inl (n : Int) : Key) = Sum.inl (m : Int) := h
  rw [h]
  constructor
  · intro e; injection e with e; omega
  · intro e; rw [e]
def dN (o : List Nat) (f : Nat → PyData) : List (PyData × PyData) := o.map fun i => (nD i, f i)
theorem look_dN (o : List Nat) (f : Nat → PyData) (x : Nat) : lookD (nD x) (dN o f) = if x ∈ o then some (f x) else none := by
  induction o with
  | nil => rfl
  | cons y o ih =>
    show (if sameK (nD x) (nD y) then some (f y) else lookD (nD x) (dN o f)) = _
    rw [ih]
    by_cases h : y = x
    · rw [if_pos ((same_nD x y).mpr h), h, if_pos List.mem_cons_self]
    · rw [if_neg fun z => h ((same_nD x y).mp z)]
      by_cases q : x ∈ o
      · rw [if_pos q, if_pos (List.mem_cons_of_mem _ q)]
      · rw [if_neg q, if_neg fun z => q ((List.mem_cons.mp z).resolve_left fun e => h e.symm)]
theorem ins_dN {o : List Nat} {f : Nat → PyData} {x : Nat} {d : PyData} (h : x ∉ o) : insD (nD x) d (dN o f) = dN o f ++ [(nD x, d)] := by
  unfold insD
  rw [if_neg]
  intro e
  obtain ⟨q, hq, e⟩ := List.any_eq_true.mp e
  obtain ⟨y, hy, rfl⟩ := List.mem_map.mp hq
  have := (same_nD x y).mp (by simpa using e)
  subst this
  exact h hy
theorem fits_nD (x : Nat) : keyFits false (nD x) = true := rfl
theorem ix_dN {o : List Nat} {f : Nat → PyData} {x : Nat} (h : x ∈ o) : ixD (dicD false (dN o f)) (nD x) = some (f x) := by
  show (if keyFits false (nD x) = true then lookD (nD x) (dN o f) else none) = _
  rw [if_pos (fits_nD x), look_dN, if_pos h]
end PD
end
section
set_option Elab.async false
set_option linter.all false
set_option maxRecDepth 100000
set_option maxHeartbeats 4000000
/-! PM4: rows of flat data have a repr. -/
namespace PD
variable [TB]
open PySem PySem.Spec PyProof.Rows L2
inductive FlatS : PyData → Prop
  | none : FlatS .none
  | bool (b : Bool) : FlatS (.bool b)
  | int (i : Int) : i.natAbs < 10 ^ 8 → FlatS (.int i)
  | str (x : Str) : (reprText x).length ≤ 40 → FlatS (.str x)
theorem FlatS.std {d : PyData} (h : FlatS d) : std d = d := by cases h <;> rw [PD.std]
theorem FlatS.show {d : PyData} (h : FlatS d) : d.showable = true ∧ d.hasDict = false ∧ d.depth = 0 ∧ d.shown.length ≤ 40 := by
  cases h with
  | none => exact ⟨by simp [PyData.showable], by simp [PyData.hasDict], by simp [PyData.depth], by simp only [PyData.shown]; decide⟩
  | bool b =>
    refine ⟨by simp [PyData.showable], by simp [PyData.hasDict], by simp [PyData.depth], ?_⟩
    simp only [PyData.shown]
    cases b <;> decide
  | int i h =>
    have lg : i.natAbs.log2 < 1920 := by
      by_cases z : i.natAbs = 0
      · rw [z]; decide
      · refine (Nat.log2_lt z).mpr (Nat.lt_of_lt_of_le h ?_)
        exact Nat.le_trans (show 10 ^ 8 ≤ 2 ^ 27 by decide) (Nat.pow_le_pow_right (by decide) (by decide))
    refine ⟨by simp [PyData.showable, lg], by simp [PyData.hasDict], by simp [PyData.depth], ?_⟩
    have := int_text_length_le10 (k := 8) (by decide) h
    simp only [PyData.shown]
    rw [PySem.ofString_length]
    omega
  | str x h => exact ⟨by simp [PyData.showable], by simp [PyData.hasDict], by simp [PyData.depth], by simp only [PyData.shown]; exact h⟩
theorem flat_all : ∀ {ds : List PyData}, (∀ d ∈ ds, FlatS d) → stdAll ds = ds ∧ PyData.showableAll ds = true ∧ PyData.hasDictAll ds = false ∧ PyData.depthAll ds = 0 ∧ piled (PyData.shownAll ds) ≤ 42 * ds.length
  | [], _ => ⟨by rw [stdAll], by rw [PyData.showableAll], by rw [PyData.hasDictAll], by rw [PyData.depthAll], by rw [PyData.shownAll]; exact Nat.le_refl _⟩
  | d :: ds, h => by
    obtain ⟨a1, a2, a3, a4, a5⟩ := flat_all fun x hx => h x (List.mem_cons_of_mem _ hx)
    have hd := h d List.mem_cons_self
    obtain ⟨b1, b2, b3, b4⟩ := hd.show
    refine ⟨by rw [stdAll, hd.std, a1], by rw [PyData.showableAll, b1, a2]; rfl, by rw [PyData.hasDictAll, b2, a3]; rfl, by rw [PyData.depthAll, b3, a4]; rfl, ?_⟩
    rw [PyData.shownAll, piled_cons, List.length_cons]
    omega
theorem tuple_len (ts : List Str) : (tupleText ts).length ≤ piled ts + 3 := by
  have e : (tupleText ts).length = 1 + (Str.join ", " ts).length + (if ts.length == 1 then 2 else 1) := by
    unfold tupleText
    rw [strLen_append, strLen_append]
    split <;> rfl
  have : (Str.join ", " ts).length ≤ piled ts := by
    by_cases h : ts = []
    · subst h; exact Nat.le_refl _
    · have := join_length_add ts h
      omega
  rw [e]
  split <;> omega
theorem from_len : ∀ (ts : List Str) (k : Nat) (acc : Str), (textFrom k acc ts).length ≤ acc.length + piled ts
  | [], k, acc => by show acc.length ≤ _; omega
  | t :: ts, k, acc => by
    have := from_len ts (k + 1) (acc ++ (if k > 0 then ", " else "" : String) ++ t)
    have e : (acc ++ (if k > 0 then ", " else "" : String) ++ t).length ≤ acc.length + 2 + t.length := by
      rw [strLen_append, strLen_append]
      have : (((if k > 0 then ", " else "" : String)) : Str).length ≤ 2 := by split <;> decide
      omega
    rw [piled_cons]
    show (textFrom (k + 1) _ ts).length ≤ _
    omega
theorem list_len (ts : List Str) : (listText ts).length ≤ piled ts + 2 := by
  have := from_len ts 0 "["
  have e1 : (("[" : String) : Str).length = 1 := rfl
  have e2 : (("]" : String) : Str).length = 1 := rfl
  unfold listText
  rw [strLen_append]
  omega
theorem okShow_tuple {ds : List PyData} (h : ∀ d ∈ ds, FlatS d) (hl : ds.length ≤ 1000) : okShow (.tuple ds) = true := by
  obtain ⟨a1, a2, a3, a4, a5⟩ := flat_all h
  have := tuple_len (PyData.shownAll ds)
  unfold okShow
  rw [std, a1]
  have e : (PyData.tuple ds).shown = tupleText (PyData.shownAll ds) := by rw [PyData.shown]
  have z : (PyData.tuple ds).shown.length ≤ sizeLine := by rw [e]; simp only [sizeLine]; omega
  simp [PyData.showable, PyData.hasDict, PyData.depth, a2, a3, a4, z]
theorem okShow_list {ds : List PyData} (h : ∀ d ∈ ds, FlatS d) (hl : ds.length ≤ 1000) : okShow (.list ds) = true := by
  obtain ⟨a1, a2, a3, a4, a5⟩ := flat_all h
  have := list_len (PyData.shownAll ds)
  unfold okShow
  rw [std, a1]
  have e : (PyData.list ds).shown = listText (PyData.shownAll ds) := by rw [PyData.shown]
  have z : (PyData.list ds).shown.length ≤ sizeLine := by rw [e]; simp only [sizeLine]; omega
  simp [PyData.showable, PyData.hasDict, PyData.depth, a2, a3, a4, z]
theorem okShow_flat {d : PyData} (h : FlatS d) : okShow d = true := by
  obtain ⟨b1, b2, b3, b4⟩ := h.show
  unfold okShow
  rw [h.std, b1, b2, b3]
  simp
  simp only [sizeLine]
  omega
theorem okShow_nodict : okShow (dicD false []) = true := by
  unfold okShow dicD
  rw [std, stdKv]
  simp [PyData.showable, PyData.showableKv, PyData.hasDict, PyData.depth, PyData.shown, PyData.shownKv, noL, noLKv]
  decide
end PD
end
section
set_option Elab.async false
set_option linter.all false
set_option maxRecDepth 100000
set_option maxHeartbeats 4000000
/-! PDT: the law's own def called from the top, with tables of code objects, guards told. -/
namespace PD
open PySem PySem.Spec PyProof.Rows L2
abbrev tabObj : Obj := { cls := .none, data := .fields #[] }
/-- nothing but the script and the tables is tracked -/
structure TOnly (ts : List Addr) (H : Hp) : Prop where
  tab : ∀ b ∈ ts, H b = some (.tbl #[])
  only : ∀ b, H b = none ∨ b ∈ ts ∨ ∃ o xs, H b = some (.frz o (.lst xs))
theorem start_T {P : Program} {w : World} {K : PySem.W.Frag} {s1 : Shared} {a : Addr} {us : List Value} {ns : List Int} (ts : List Addr) (inK : K.In s1.heap) (tabs : ∀ b ∈ ts, s1.heap.get? b = some tabObj)
    (ha : s1.heap.get? a = some { cls := .type "list", data := .seq us.toArray }) (hi : IntsAre us ns) (hl : ns.length ≤ sizeLine) :
    ∃ H : Hp, TOnly ts H ∧ SqL K H a (ns.map V.int) ∧ HOk P w H s1.heap ∧ (∀ b, H b ≠ none → b = a ∨ b ∈ ts) ∧ (H a ≠ none → K.lookup a = none) := by
  have rv := vals_ints hi
  have lu : us.length = ns.length := hi.length
  have na : a ∉ ts := fun z => by
    have q := tabs a z
    rw [ha] at q
    have q2 : Data.seq us.toArray _ = Data.fields #[] := congrArg Obj.data (Option.some.inj q)
    cases q2
  let HT : Hp := fun b => if b ∈ ts then some (.tbl #[]) else none
  have t1 : ∀ b, b ∈ ts → HT b = some (.tbl #[]) := fun b h => if_pos h
  have t0 : ∀ b, b ∉ ts → HT b = none := fun b h => if_neg h
  cases hk : K.lookup a with
  | some o =>
    have eo : o = { cls := .type "list", data := .seq us.toArray } := Option.some.inj ((inK a o hk).symm.trans ha)
    subst eo
    refine ⟨HT, ⟨t1, fun b => ?_⟩, Or.inr ⟨_, us.toArray, _, hk, rfl, rfl, rfl, by rw [List.size_toArray, lu]; exact hl, by simpa using rv⟩, fun b u z => ?_, fun b z => ?_, fun z => absurd (t0 a na) z⟩
    · by_cases h : b ∈ ts
      · exact Or.inr (Or.inl h)
      · exact Or.inl (t0 b h)
    · by_cases h : b ∈ ts
      · rw [t1 b h] at z; cases z; exact tabs b h
      · rw [t0 b h] at z; cases z
    · by_cases h : b ∈ ts
      · exact Or.inr h
      · exact absurd (t0 b h) z
  | none =>
    let ob : Obj := { cls := .type "list", data := .seq us.toArray }
    let HA : Hp := fun b => if b = a then some (.frz ob (.lst (ns.map V.int))) else HT b
    have a1 : HA a = some (.frz ob (.lst (ns.map V.int))) := if_pos rfl
    have a0 : ∀ b, b ≠ a → HA b = HT b := fun b h => if_neg h
    refine ⟨HA, ⟨fun b h => by rw [a0 b fun z => na (by rw [← z]; exact h)]; exact t1 b h, fun b => ?_⟩, Or.inl (Or.inr ⟨ob, a1⟩), fun b u z => ?_, fun b z => ?_, fun _ => rfl⟩
    · by_cases e : b = a
      · rw [e]; exact Or.inr (Or.inr ⟨ob, _, a1⟩)
      · rw [a0 b e]
        by_cases h : b ∈ ts
        · exact Or.inr (Or.inl h)
        · exact Or.inl (t0 b h)
    · by_cases e : b = a
      · subst e
        rw [a1] at z; cases z
        exact ⟨ha, by rw [List.length_map]; exact hl, us, _, rv, ha⟩
      · rw [a0 b e] at z
        by_cases h : b ∈ ts
        · rw [t1 b h] at z; cases z; exact tabs b h
        · rw [t0 b h] at z; cases z
    · by_cases e : b = a
      · exact Or.inl e
      · rw [a0 b e] at z
        by_cases h : b ∈ ts
        · exact Or.inr h
        · exact absurd (t0 b h) z
/-- what is known at the top of the module's names and of the code objects cs -/
structure Top (K : PySem.W.Frag) (mg mb : Str → Option Value) (cs : List (Addr × Addr)) (s1 : Shared) : Prop where
  inK : K.In s1.heap
  hns : s1.heap.Ns mainGlobals mg
  hb : s1.heap.Ns builtinsNs mb
  hbb : ∀ x : Str, x ≠ "__name__" → mb x = bootBuiltins x
  nl : s1.heap.NoLimit
  hg : s1.gens = #[]
  tabs : ∀ p ∈ cs, s1.heap.get? p.2 = some tabObj
  noK : ∀ p ∈ cs, K.lookup p.2 = none
  code : ∀ p ∈ cs, PySem.W.CodeHd s1.heap p.1 p.2
  main : ∃ (bm : Addr) (ob : Obj), mg "__builtins__" = some (.ref bm) ∧ bm ≠ builtinsNs ∧ s1.heap.get? bm = some ob ∧ ob.cls = .type "module" ∧ ob.dict = some builtinsNs ∧ ob.data = .plain
theorem law_callT {P : Program} {w : World} {K : PySem.W.Frag} {mg mb : Str → Option Value} {CX : CXT} {k : Nat} {fa a : Addr} {cs : List (Addr × Addr)} {fd : FuncData} {x : Str} {sp : Sp} {s1 : Shared} {us : List Value} {ns : List Int} (T : Top K mg mb cs s1)
    (ha : s1.heap.get? a = some { cls := .type "list", data := .seq us.toArray }) (hi : IntsAre us ns) (hl : ns.length ≤ sizeLine) (hr : RoomG k callerA)
    (F : ∀ base : Heap, K.In base → base.Ns mainGlobals mg → (∀ p ∈ cs, LamX.TabB base mg p.1 p.2) → FnG P w K mg base CX k fa fd [x] sp) (bind : ∀ (s : Shared) (u : Value), BindsTo s fd ⟨[u], []⟩ [(x, u)])
    (hsp : ∀ H : Hp, TOnly (cs.map (·.2)) H → SqL K H a (ns.map V.int) → sp [.ref a] H (fun v _ => v = .bl true) fun _ _ _ => False)
    (hCX : ∀ H e s', CX [] H s1 (fun _ _ _ => False) e s' → False) :
    codeAny (model P w) callerA (.call (.ref fa) ⟨[.ref a], []⟩) (fun r s2 => r = .ok (.ret (.bool true)) ∧ OldK s1.heap s2.heap ∧ s2.os = s1.os ∧ AllBare s2.gens) s1 := by
  have tabs' : ∀ b ∈ cs.map (·.2), s1.heap.get? b = some tabObj := fun b h => by
    obtain ⟨p, hp, e⟩ := List.mem_map.mp h
    rw [← e]; exact T.tabs p hp
  have mem : ∀ p ∈ cs, p.2 ∈ cs.map (·.2) := fun p hp => List.mem_map.mpr ⟨p, hp, rfl⟩
  obtain ⟨H, hO, hS, hok, hA, hK⟩ := start_T (P := P) (w := w) (cs.map (·.2)) T.inK tabs' ha hi hl
  have keep : ∀ {b : Addr} {o : Obj}, s1.heap.get? b = some o → H b = none → (hidT s1.heap H).get? b = some o := fun e n => hidT_get e n
  -- what is neither the script nor a table is not tracked
  have free : ∀ {b : Addr} {o : Obj}, s1.heap.get? b = some o → (∀ vs n, o.data ≠ .seq vs n) → o.data ≠ .fields #[] → H b = none := fun {b o} e h1 h2 => by
    cases q : H b with
    | none => rfl
    | some u =>
      rcases hA b (fun z => by rw [z] at q; cases q) with z | z
      · rw [z, ha] at e
        cases e
        exact absurd rfl (h1 _ _)
      · rw [tabs' b z] at e
        cases e
        exact absurd rfl h2
  have isD : ∀ {b : Addr} {o : Obj} {es : Array DictEntry} {ep : Nat}, s1.heap.get? b = some o → o.data = .dict es ep → H b = none := fun {b o es ep} e d =>
    free e (fun vs n z => by rw [d] at z; cases z) fun z => by rw [d] at z; cases z
  have nsK : ∀ {b : Addr} {m : Str → Option Value}, s1.heap.Ns b m → (hidT s1.heap H).Ns b m := by
    rintro b m ⟨o, es, ep, e, d, r⟩
    exact ⟨o, es, ep, keep e (isD e d), d, r⟩
  have inB : K.In (hidT s1.heap H) := fun b o e => keep (T.inK b o e) (by
    cases q : H b with
    | none => rfl
    | some u =>
      rcases hA b (fun z => by rw [z] at q; cases q) with z | z
      · subst z
        exact nomatch (hK (fun z => by rw [z] at q; cases q)).symm.trans e
      · obtain ⟨p, hp, ep⟩ := List.mem_map.mp z
        subst ep
        exact nomatch (T.noK p hp).symm.trans e)
  have noG : ∀ b o, s1.heap.get? b = some o → o.data = .plain → b ≠ mainGlobals := fun b o e d z => by
    obtain ⟨o2, es, ep, e2, d2, _⟩ := T.hns
    rw [z, e2] at e
    cases e
    rw [d2] at d
    cases d
  have tb : ∀ p ∈ cs, LamX.TabB (hidT s1.heap H) mg p.1 p.2 := fun p hp => by
    have tp := T.tabs p hp
    obtain ⟨o, us2, file, tf, flags, tg, inF, text, tt, e1, r1, r2, r3, r4, r5, r6, r7, r8, hne⟩ := T.code p hp
    obtain ⟨bm, ob, b1, b2, b3, b4, b5, b6⟩ := T.main
    refine ⟨⟨o, us2, file, tf, flags, tg, inF, text, tt, keep e1 (free e1 (fun vs n z => by rw [r2] at z; cases z) fun z => by rw [r2] at z; cases z; simp at r3), r1, r2, r3, r4, r5, r6, r7, r8, hne⟩, ⟨bm, ob, b1, b2, noG bm ob b3 b6, fun q => ?_, keep b3 (free b3 (fun vs n z => by rw [b6] at z; cases z) fun z => by rw [b6] at z; cases z), b4, b5, b6⟩, fun z => ?_⟩
    · rw [q, tp] at b3
      cases b3
      cases b6
    · obtain ⟨o2, es, ep, e2, d2, _⟩ := T.hns
      rw [z, tp] at e2
      cases e2
      cases d2
  obtain ⟨ml, nl1, nl2⟩ := T.nl
  have e0 : Env0 P w K mg (hidT s1.heap H) callerA [] s1 H :=
    ⟨rfl, ⟨inB, nsK T.hns, ⟨mb, nsK T.hb, T.hbb⟩, ⟨ml, nsK nl1, nl2⟩⟩, fun b o e => of_hidT e, Nat.le_of_eq (hidT_size _ _), trivial, (fun b z => nomatch z), hok, .of_eq T.hg⟩
  refine codeAny_mono ((F _ inB (nsK T.hns) tb).go callerA [] s1 H ⟨[.ref a], []⟩ [.ref a] [.ref a] _ _ hr e0 (bind s1 (.ref a)) (.cons rfl .nil) (hsp H hO hS)) fun z s2 hz => ?_
  match z, hz with
  | .error e, hz => exact (hCX H e s2 hz).elim
  | .ok (.ret u), ⟨v, H2, os, bare, un, hok2, r2, q2⟩ =>
    have q2 : v = .bl true := q2
    subst q2
    have eu : u = Value.bool true := r2
    subst eu
    have stays : ∀ b o, b ∉ cs.map (·.2) → s1.heap.get? b = some o → s2.heap.get? b = some o := fun b o nb e => by
      cases q : H b with
      | none => exact un.keep b o e q (fun z => nomatch z) (fun z => nomatch z)
      | some u =>
        rcases hO.only b with z | z | ⟨ob, xs, z⟩
        · exact nomatch q.symm.trans z
        · exact absurd z nb
        · have e1 := (hok b _ z).1
          have e2 := (hok2 b _ (un.frzs b ob _ z)).1
          rw [Option.some.inj (e.symm.trans e1)]
          exact e2
    have more : ∀ p ∈ cs, ∃ vs : Array Value, s2.heap.get? p.2 = some { cls := .none, data := .fields vs } := fun p hp => by
      obtain ⟨vs, z⟩ := un.tbls p.2 #[] (hO.tab _ (mem p hp))
      exact ⟨_, hok2 p.2 _ z⟩
    refine ⟨rfl, ⟨fun b o e => ?_, fun b o e => ?_⟩, os, bare⟩
    · by_cases h : b ∈ cs.map (·.2)
      · obtain ⟨p, hp, ep⟩ := List.mem_map.mp h
        subst ep
        obtain ⟨vs, hm⟩ := more p hp
        have e3 := T.tabs p hp
        rw [e3] at e
        cases e
        exact Or.inr (Or.inl ⟨((T.code p hp).tab e3).isCodeTable, rfl, #[], vs, rfl, by rw [Array.empty_append]; exact hm⟩)
      · exact Or.inl (stays b o h e)
    · by_cases h : b ∈ cs.map (·.2)
      · obtain ⟨p, hp, ep⟩ := List.mem_map.mp h
        subst ep
        obtain ⟨vs, hm⟩ := more p hp
        exact ⟨_, hm⟩
      · exact ⟨o, stays b o h e⟩
/-- the walk of a law's row whose defs make lambdas -/
theorem walk_t {l : PySem.W.OpenLaw} {n k : Nat} {q : Program} {loose : List Str} {XP : (Str → Option Value) → Heap → Prop} {YP : World → Heap → Prop} {d : DefRec} {K : Params → PySem.W.Frag} {CX : World → CXT} {x : Str}
    (hn : l.most = some n) (hn2 : n ≤ sizeLine) (hdf : d.params.defaults = []) (hr : RoomG k callerA) (hY : ∀ (w : World) (h : Heap), YP w h → (K w.params).In h)
    (F : ∀ (w : World) (mg : Str → Option Value) (fa : Addr) (h : Heap), YP w h → (K w.params).In h → h.Ns mainGlobals mg → mg d.name = some (.ref fa) →
      ∃ (fd : FuncData) (cs : List (Addr × Addr)) (sp : Sp), (∀ p ∈ cs, h.get? p.2 = some tabObj) ∧ (∀ p ∈ cs, (K w.params).lookup p.2 = none) ∧ (∀ p ∈ cs, PySem.W.CodeHd h p.1 p.2) ∧ (∀ (s : Shared) (u : Value), BindsTo s fd ⟨[u], []⟩ [(x, u)]) ∧
        (∀ (H : Hp) (a : Addr) (ns : List Int), ns.length ≤ n → TOnly (cs.map (·.2)) H → SqL (K w.params) H a (ns.map V.int) → sp [.ref a] H (fun v _ => v = .bl true) fun _ _ _ => False) ∧
        ∀ base : Heap, (K w.params).In base → base.Ns mainGlobals mg → (∀ p ∈ cs, LamX.TabB base mg p.1 p.2) → FnG l.prog w (K w.params) mg base (CX w) k fa fd [x] sp)
    (hCX : ∀ (w : World) (H : Hp) (s : Shared) (e : Value) (s' : Shared), CX w [] H s (fun _ _ _ => False) e s' → False) :
    PySem.W.WalkO q loose XP YP l.row.toRowW d [] (fun f vs => PySem.call f vs) := by
  refine Att.attach_call hn hdf fun w s0 s1 mg mb fa o pm cd doc a us ns G Y ho hd hcd hmg hobj hints hlen hg => ?_
  obtain ⟨fd, cs, sp, t1, t2, t3, hb, hs, hF⟩ := F w mg fa _ Y (hY w _ Y) G.T.g hmg
  exact law_callT ⟨hY w _ Y, G.T.g, G.T.b, G.T.builtins, G.T.nolimit, hg, t1, t2, t3, G.T.bmain⟩ hobj hints (Nat.le_trans hlen hn2) hr hF hb (fun H => hs H a ns hlen) fun H e s2 => hCX w H s1 e s2
end PD
end
section
set_option Elab.async false
set_option linter.all false
set_option maxRecDepth 100000
set_option maxHeartbeats 4000000
/-! PDL: sorted(x, key=lambda y: y[0]). -/
namespace PD
open PySem PySem.Spec PyProof.Rows L2
/-! ### a lambda is made -/
section
variable {X : Cx} {pins : List (Addr × Obj)} {σ : L2.St} {H : Hp} {s : Shared}
/-- what the making of a lambda leaves: nothing else, or its table longer by a new code object -/
def Made (P : Addr) (q : Str) (H H1 : Hp) (c' : Addr) : Prop := (H1 = H ∧ H c' = some (LamX.CodeO c' q)) ∨ ∃ ps more, H P = some (.tbl ps) ∧ H c' = none ∧ H1 = upd (upd H P (.tbl (ps ++ more))) c' (LamX.CodeO c' q)
theorem tab_longer {ps : Array Value} {c' : Addr} {q : Str} {H1 : Hp} (t : TriplesOk ps.toList) (h : ∀ (pos : Pos) (cv : Value), codeAmong pos ps.toList = some cv → ∃ c, cv = .ref c ∧ H1 c = some (LamX.CodeO c q)) (hc : H1 c' = some (LamX.CodeO c' q)) (p : Pos) :
    TriplesOk (ps ++ #[rawInt p.line, rawInt p.col, .ref c']).toList ∧ ∀ (pos : Pos) (cv : Value), codeAmong pos (ps ++ #[rawInt p.line, rawInt p.col, .ref c']).toList = some cv → ∃ c, cv = .ref c ∧ H1 c = some (LamX.CodeO c q) := by
  have e : (ps ++ #[rawInt p.line, rawInt p.col, .ref c']).toList = ps.toList ++ [rawInt p.line, rawInt p.col, .ref c'] := by simp
  rw [e]
  refine ⟨PySem.TriplesOk_snoc _ _ _ _ t, fun pos cv z => ?_⟩
  rcases LamX.among_app _ t z with w | w
  · exact h pos cv w
  · exact ⟨c', w, hc⟩
theorem lam_make3 {c P : Addr} {params : Arguments} {body : Expr} {scope : Scope} {pos : Pos} {E : Value → Shared → Prop} {Q : Value → Shared → Prop} {T : List (Addr × Str)} (I : Inv X pins σ H s) (B : LamX.TabB X.base X.mg c P) (hcode : X.env.code = .ref c)
    (hm : (P, X.env.qual ++ "<lambda>") ∈ T) (hu : ∀ p ∈ T, p.1 = P → p.2 = X.env.qual ++ "<lambda>") (hT : LamX.Tabs T H) (hdef : defaultsOf params X.env = ([], [])) (hfree : ∀ y ∈ scope.names, y.2 = .free → ∃ c, X.env.cells.lookup y.1 = some c)
    (h : ∀ (f c' : Addr) (pm ctv : Value) (H1 : Hp) (s2 : Shared), Inv X pins σ H1 s2 → Made P (X.env.qual ++ "<lambda>") H H1 c' → LamX.Tabs T H1 →
      s2.heap.get? f = some (PySem.W.kla_obj "<lambda>" (X.env.qual ++ "<lambda>") params body scope (cloFrom X.env.cells scope.names []) pm c' ctv) → H1 f = none → H1 c' = some (LamX.CodeO c' (X.env.qual ++ "<lambda>")) → Q (.ref f) s2) :
    wpAny (model X.prog X.w) X.A (eval (.Lambda params body scope pos) X.env) Q E s := by
  obtain ⟨ps, hP, ht, hall⟩ := hT _ hm
  have at0 : s.heap.get? P = some { cls := .none, data := .fields ps } := I.hok P _ hP
  have bn : s.heap.BuiltinsAt X.mg P := B.bm.keeps I.bk
  refine PySem.W.kla_eval hdef ?_
  cases hc : codeAmong pos ps.toList with
  | some cv =>
    obtain ⟨c', e, hco⟩ := hall pos cv hc
    subst e
    refine PySem.W.kla_makeFunctionHit (mg := X.mg) (c := c) (P := P) (ps := ps) (closure_ok hfree) I.ok.glob (I.mod.glob.keeps I.bk) hcode (B.code.keeps I.bk) at0 ht hc bn fun ctv h2 tk hx hsz => ?_
    exact h _ c' ((X.mg "__name__").getD .none) ctv H _ (I.kept fun b o e => Heap.get?_push_of_some _ (hx b o e)) (.inl ⟨rfl, hco⟩) hT (Heap.get?_push_size _ rfl) (I.hok.fresh hsz) hco
  | none =>
    refine PySem.W.kla_makeFunction (mg := X.mg) (c := c) (P := P) (ps := ps) (closure_ok hfree) I.ok.glob (I.mod.glob.keeps I.bk) hcode (B.code.keeps I.bk) at0 ht hc B.gP bn fun c' ctv h2 tk hx hge hlt hrec htb => ?_
    obtain ⟨c2, oc, vs, t, e2, hoc, hd, hv⟩ := hrec
    cases e2
    have nC : H c' = none := I.hok.fresh hge
    have pushed : ∀ {b : Addr} {o : Obj} {z : Obj}, h2.get? b = some o → (h2.push z).get? b = some o := fun e => Heap.get?_push_of_some _ e
    have I1 := LamX.inv_table (t' := tk) (more := #[rawInt pos.line, rawInt pos.col, .ref c']) (h' := h2.push (PySem.W.kla_obj "<lambda>" (X.env.qual ++ "<lambda>") params body scope (cloFrom X.env.cells scope.names []) ((X.mg "__name__").getD .none) c' ctv)) I hP
      (fun b o hb e => pushed (hx b o hb e)) (pushed htb) hge ⟨oc, vs, t, pushed hoc, hd, hv⟩
    have nP : P ≠ c' := ne_of_none hP nC
    have big : s.heap.objs.size ≤ h2.objs.size := Nat.le_trans hge (Nat.le_of_lt hlt)
    have other : ∀ b, b ≠ P → b ≠ c' → upd (upd H P (.tbl (ps ++ #[rawInt pos.line, rawInt pos.col, .ref c']))) c' (LamX.CodeO c' (X.env.qual ++ "<lambda>")) b = H b := fun b n1 n2 => by rw [upd_ne n2, upd_ne n1]
    have code : ∀ b q, H b = some (LamX.CodeO b q) → upd (upd H P (.tbl (ps ++ #[rawInt pos.line, rawInt pos.col, .ref c']))) c' (LamX.CodeO c' (X.env.qual ++ "<lambda>")) b = some (LamX.CodeO b q) := fun b q e => by
      rw [other b (fun z => by rw [z, hP] at e; exact LamX.codeO_ne _ (Option.some.inj e).symm) (ne_of_none e nC)]; exact e
    refine h h2.objs.size c' ((X.mg "__name__").getD .none) ctv _ _ I1 (.inr ⟨ps, #[rawInt pos.line, rawInt pos.col, .ref c'], hP, nC, rfl⟩) (fun p hp => ?_) (Heap.get?_push_size _ rfl) ?_ upd_same
    · by_cases hb : p.1 = P
      · obtain ⟨l1, l2⟩ := tab_longer (q := X.env.qual ++ "<lambda>") (H1 := upd (upd H P (.tbl (ps ++ #[rawInt pos.line, rawInt pos.col, .ref c']))) c' (LamX.CodeO c' (X.env.qual ++ "<lambda>"))) ht (fun p2 cv z => by
          obtain ⟨c0, e1, e2⟩ := hall p2 cv z
          exact ⟨c0, e1, code c0 _ e2⟩) upd_same pos
        rw [hu p hp hb, hb]
        exact ⟨_, by rw [upd_ne nP, upd_same], l1, l2⟩
      · obtain ⟨ps2, a1, a2, a3⟩ := hT p hp
        refine ⟨ps2, (other _ hb (ne_of_none a1 nC)).trans a1, a2, fun p2 cv z => ?_⟩
        obtain ⟨c0, e1, e2⟩ := a3 p2 cv z
        exact ⟨c0, e1, code c0 _ e2⟩
    · rw [other _ (fun z => by
        have := Heap.lt_size at0
        rw [← z] at this
        exact Nat.lt_irrefl _ (Nat.lt_of_lt_of_le this big)) (Nat.ne_of_gt hlt)]
      exact I.hok.fresh big
end
/-! ### y[0] -/
section
variable {prog : Program} {w : World} {A : Around} {s : Shared}
/-- the lambda y: y[0] called with a tuple -/
theorem key0_run {q y : Str} {params : Arguments} {scope : Scope} {cl : List (Str × Addr)} {pm ctv v0 : Value} {c' f t : Addr} {items : Array Value} {k : Nat} {p1 p2 p3 : Pos}
    (room : A.depth < recursionLimit) (nl : s.heap.NoLimit) (ho : s.heap.get? f = some (PySem.W.kla_obj "<lambda>" q params (.Subscript (.Name y p1) (.Constant (.int 0) k p2) p3) scope cl pm c' ctv)) (hcd : s.heap.CodeRec (.ref c') q)
    (hk : scope.kind = .function) (hco : scope.isCoroutine = false) (hgen : scope.isGenerator = false) (hcell : ∀ x ∈ scope.names, x.2 ≠ .cell) (hy : scope.names.lookup y = some .local) (hdb : (y == ("__debug__" : Str)) = false)
    (hbind : ∀ v, bindArgs (PySem.W.kla_fn "<lambda>" q params (.Subscript (.Name y p1) (.Constant (.int 0) k p2) p3) scope cl pm (.ref c') ctv) ⟨[v], []⟩ = pure [(y, v)])
    (ht : IsTup s.heap t items) (h0 : items[0]? = some v0) :
    wpAny (model prog w) A (call (.ref f) [.ref t]) (fun r s2 => r = v0 ∧ ∃ h2 tk, s2 = { s with heap := h2, toks := tk } ∧ ∀ b o, s.heap.get? b = some o → h2.get? b = some o) (fun _ _ => False) s := by
  refine wpAny_call (PySem.W.kla_callFunE room ho rfl hco hgen rfl hcd ?_)
  rw [hbind]
  refine wpAny_pure (wpAny_newFunctionEnv hcell (fun x hx => by rw [List.mem_singleton.mp hx]; exact hy) (fun h1 hns hsb => ⟨nl.fresh _ hsb, ?_⟩) hk)
  have kp : ∀ b o, s.heap.get? b = some o → h1.get? b = some o := fun b o e => hsb.extBut b o (Nat.ne_of_lt (Heap.lt_size e)) (Heap.get?_push_of_some _ e)
  have ht1 : IsTup h1 t items := by
    obtain ⟨o, e, r⟩ := ht
    exact ⟨o, kp t o e, r⟩
  show codeAny _ _ (.expr _ _) _ _
  have look : ([(y, Value.ref t)] : List (Str × Value)).reverse.lookup y = some (.ref t) := by simp
  have i0 : seqIndex? 0 items.size = some 0 := by
    have : 0 < items.size := (Array.getElem?_eq_some_iff.mp h0).1
    have := seqIndex_of (n := items.size) (k := 0) (by omega) (by omega)
    simpa using this
  refine PySem.W.kla_codeExpr (Subscript_ (wpAny_Name (wpAny_loadName_local hk hy hns look ?_) hdb))
  refine wpAny_Constant_int ?_
  have ty : ({ s with heap := h1, toks := s.toks + ([(y, Value.ref t)] : List (Str × Value)).length + 1 } : Shared).TypeIs (.ref t) "tuple" := ht1.typeIs
  refine subscriptTail_builtinR (x := v0) ty slot_tuple_getitem.lookup (getItem_tuple (j := 0) ht1 (by omega) (by omega) i0 h0 ?_) rfl
  exact ⟨rfl, rfl, h1, _, rfl, kp⟩
end
section
variable [TB]
variable {K : PySem.W.Frag} {X : Cx} {p : Pm} {O O' : Ow} {σ : L2.St} {H H1 : Hp} {s : PSt} {e : Expr} {pos p1 : Pos} {t : PTL}
theorem Rl.made {P c' : Addr} {q : Str} (R : Rl K p O σ H s) (m : Made P q H H1 c') (hP : Tb P) (hT : LamX.Tabs TB.tb H1) : Rl K p O σ H1 s ∧ Kp O H O H1 := by
  have same : ∀ b o, H b = some o → b ≠ P → H1 b = some o := fun b o e n => by
    rcases m with ⟨m, _⟩ | ⟨ps, more, _, hc, m⟩
    · rw [m]; exact e
    · rw [m, upd_ne (ne_of_none e hc), upd_ne n]; exact e
  have f : Fram p.ha H H1 := fun b o e n => same b o e fun z => n (.inr (by rw [z]; exact hP))
  have k := f.kp (hd := s.hd) R
  exact ⟨R.called (hd' := s.hd) f ⟨fun a e => by
    obtain ⟨h1, xs, h2, h3⟩ := R.hand a e
    exact ⟨h1, xs, same a _ h2 fun z => R.tbo.no h2 (fun ps z => nomatch z) (by rw [z]; exact hP), h3.to k⟩, ⟨R.tbo.own, hT⟩⟩, k⟩
/-! ### keys -/
mutual
def noLst : PyData → Bool
  | .none => true
  | .bool _ => true
  | .int _ => true
  | .str _ => true
  | .tuple ds => noLsts ds
  | _ => false
def noLsts : List PyData → Bool
  | [] => true
  | d :: ds => noLst d && noLsts ds
end
mutual
theorem Reads.bare {h : Heap} : ∀ (d : PyData) (v : Value) (as : List Addr), Reads h v d as → noLst d = true → as = []
  | .none, _, _, r, _ => by cases r; rfl
  | .bool _, _, _, r, _ => by cases r; rfl
  | .int _, _, _, r, _ => by cases r; rfl
  | .str _, _, _, r, _ => by cases r; rfl
  | .tuple ds, _, _, r, n => by
    cases r with
    | tuple _ _ _ hr => exact ReadsAll.bare ds _ _ hr (by simpa [noLst] using n)
  | .list _, _, _, _, n => by simp [noLst] at n
  | .dict _, _, _, _, n => by simp [noLst] at n
theorem ReadsAll.bare {h : Heap} : ∀ (ds : List PyData) (vs : List Value) (as : List Addr), ReadsAll h vs ds as → noLsts ds = true → as = []
  | [], _, _, r, _ => by cases r; rfl
  | d :: ds, _, _, r, n => by
    cases r with
    | cons h1 h2 =>
      rw [noLsts, Bool.and_eq_true] at n
      rw [Reads.bare d _ _ h1 n.1, ReadsAll.bare ds _ _ h2 n.2]; rfl
end
def keyOf0 : PyData → PyData
  | .tuple (k :: _) => k
  | d => d
def fitK0 : PyData → Bool
  | .tuple (k :: _) => noLst k && k.plain && decide (k.depth ≤ 60)
  | _ => false
def okSortK (ds : List PyData) : Bool := ds.all fitK0 && (ds.map keyOf0).all (fun x => (ds.map keyOf0).all fun y => PySem.W.alike x y) && ((ds.map keyOf0).all someTup || (ds.map keyOf0).all nonTup)
def sortK (ds : List PyData) : List PyData := ds.mergeSort (PySem.W.dataLe false keyOf0)
@[simp] def tSK (t : PTL) : PTE := fun s Q => t s fun r s' => ∃ d ds, rd s' r = some d ∧ d = .list ds ∧ okSortK ds = true ∧ Q (.list (sortK ds)) s'
theorem okSortK_of {ds : List PyData} (h : okSortK ds = true) : (∀ d ∈ ds, ∃ k r, d = .tuple (k :: r) ∧ noLst k = true ∧ k.plain = true ∧ k.depth ≤ 60) ∧ PySem.W.AllAlike (ds.map keyOf0) ∧ PySem.W.Sortable (ds.map keyOf0) := by
  unfold okSortK at h
  simp only [Bool.and_eq_true, Bool.or_eq_true] at h
  obtain ⟨⟨h1, h2⟩, h3⟩ := h
  refine ⟨fun d hd => ?_, fun a ha b hb => List.all_eq_true.mp (List.all_eq_true.mp h2 a ha) b hb, h3.imp (fun h d hd => ?_) (fun h d hd => ?_)⟩
  · have := List.all_eq_true.mp h1 d hd
    unfold fitK0 at this
    split at this
    · simp only [Bool.and_eq_true, decide_eq_true_eq] at this
      exact ⟨_, _, rfl, this.1.1, this.1.2, this.2⟩
    · cases this
  · have := List.all_eq_true.mp h d hd
    unfold someTup at this
    split at this
    · exact ⟨_, _, rfl⟩
    · cases this
  · have := List.all_eq_true.mp h d hd
    refine ⟨fun e => ?_, fun xs e => ?_⟩ <;> (rw [e] at this; exact Bool.false_ne_true this)
theorem df_sortKey0 {c P : Addr} {y : Str} {params : Arguments} {scope : Scope} {kk : Nat} {q1 q2 q3 lpos kpos : Pos} {k : Nat} (h : DL X e t) (hr : RoomG k X.A) (hu64 : X.A.units + 64 < cLine) (hg : Gl X "sorted") (hm : X.mg "sorted" = none)
    (B : LamX.TabB X.base X.mg c P) (hcode : X.env.code = .ref c) (hmT : (P, X.env.qual ++ "<lambda>") ∈ TB.tb) (hu : ∀ p ∈ TB.tb, p.1 = P → p.2 = X.env.qual ++ "<lambda>") (hdef : defaultsOf params X.env = ([], [])) (hfree : ∀ z ∈ scope.names, z.2 = .free → ∃ c, X.env.cells.lookup z.1 = some c)
    (hk : scope.kind = .function) (hco : scope.isCoroutine = false) (hgen : scope.isGenerator = false) (hcell : ∀ x ∈ scope.names, x.2 ≠ .cell) (hy : scope.names.lookup y = some .local) (hdb : (y == ("__debug__" : Str)) = false)
    (hbind : ∀ (q : Str) (cl : List (Str × Addr)) (pm ctv cv v : Value), bindArgs (PySem.W.kla_fn "<lambda>" q params (.Subscript (.Name y q1) (.Constant (.int 0) kk q2) q3) scope cl pm cv ctv) ⟨[v], []⟩ = pure [(y, v)])
    (hs : starEach [e] X.env = (false, eval e X.env) :: starEach [] X.env := by rfl) (hs2 : backTo pos (starEach [e] X.env) = (false, eval e X.env) :: backTo pos (starEach [] X.env) := by rfl) (hs3 : (backTo pos (starEach [e] X.env)).any (·.1) = false := by rfl) :
    DF X (.Call (.Name "sorted" p1) [e] [⟨some "key", .Lambda params (.Subscript (.Name y q1) (.Constant (.int 0) kk q2) q3) scope lpos, kpos⟩] pos) (tSK t) := by
  refine ⟨⟨fun pins s σ H Q I ⟨p, O, st, R, q⟩ => ?_⟩, fun s Q Q' w q => h.mono _ _ _ (fun r s' ⟨d, ds, e1, e2, e3, q⟩ => ⟨d, ds, e1, e2, e3, w _ _ q⟩) q⟩
  refine wpAny_Call_Name_kw (ld_blt I hg hm bt_sorted ?_ (by decide) (by decide))
  refine PyProof.Rows.callWith_kw (thn ((pa_cons h.pe pa_nil hs).run pos pins s σ H (fun vs H1 => ∃ v O1 s1 r d ds, vs = [v] ∧ Rl X.K p O1 σ H1 s1 ∧ Kp O H O1 H1 ∧ RvOk X.K p O1 σ H1 v r ∧ rd s1 r = some d ∧ d = .list ds ∧ okSortK ds = true ∧ ∀ a O' H', Rl X.K p O' σ H' s1 → Kp O H O' H' → Lone X.K p O' σ H' s1 a (.list (sortK ds)) → Q (.ref a) H') I
    ⟨p, O, st, R, h.mono _ _ _ (fun r s1 ⟨d, ds, e1, e2, e3, q⟩ v O1 H1 R1 k1 a1 => ⟨v, O1, s1, r, d, ds, rfl, R1, k1, a1, e1, e2, e3, q⟩) q⟩) fun us s1 ⟨vs, H1, I1, r1, v, O1, st1, r, d, ds, ev, R1, k1, a1, e1, e2, e3, q⟩ => ?_) hs2 hs3 (by rfl) (by rfl)
  subst ev
  obtain ⟨u, rfl, ru⟩ := r1.one
  subst e2
  have tP : Tb P := ⟨_, hmT, rfl⟩
  show wpAny _ _ (evalAll [do let z ← eval (.Lambda params (.Subscript (.Name y q1) (.Constant (.int 0) kk q2) q3) scope lpos) X.env; standAt pos; pure z]) _ _ s1
  refine wpAny_evalAll_cons (wpAny_bind (lam_make3 I1 B hcode hmT hu R1.tbo.tab hdef hfree fun f c' pm ctv H2 s2 I2 md hT2 hf hfn hco2 => wpAny_bind (wpAny_standAt (wpAny_pure (wpAny_evalAll_nil ?_)))))
  obtain ⟨R2, k2⟩ := R1.made md tP hT2
  have ae := R2.read (RvOk.to k2 a1) e1
  obtain ⟨b, ys, eb, h1, h2⟩ := ae.lst
  subst eb
  cases ru
  obtain ⟨its, rv, hl, hz⟩ := I2.list (SqL.of h1)
  obtain ⟨w1, w2, w3⟩ := okSortK_of e3
  have hlen : ys.length = ds.length := h2.len
  have z1 := vals_zip rv hlen
  have hmap : (ys.zip ds).map (fun b => keyOf0 b.2) = ds.map keyOf0 := by
    have : (ys.zip ds).map (·.2) = ds := zip_snd hlen
    conv => rhs; rw [← this]
    rw [List.map_map]; rfl
  show wpAny _ _ (call (.builtin "sorted") [.ref b] [(Str.ofString "key", .ref f)]) _ _ s2
  refine PySem.W.sorted_key_data (k := fun b : V × PyData => keyOf0 b.2) (bs := ys.zip ds) (b := false) hl.isList z1 (by rw [hmap]; exact w2) (by rw [hmap]; exact w3) (by rw [List.length_zip]; omega) (fun x hx => ?_) (PyProof.Rows.ksk_s1 _ _) (fun _ => PyProof.Rows.ksk_l1 _ _) (fun x => PyProof.Rows.ksk_t1 f x) (fun v x hR hx h3 tk kp => ?_) fun out c3 h3 tk kp _ hD ol eo => ?_
  · obtain ⟨k0, r0, ex, _, _, hd⟩ := w1 x.2 (List.of_mem_zip hx).2
    rw [ex]
    show X.A.units + 2 + k0.depth < cLine
    omega
  · obtain ⟨k0, r0, ex, n0, pl0, _⟩ := w1 x.2 (List.of_mem_zip hx).2
    have ax := h2.zipped x hx
    rw [ex] at ax ⊢
    obtain ⟨x1, x2⟩ := x
    cases ax with
    | tup s3 l3 =>
      cases l3 with
      | cons a0 l3 =>
        rename_i ta y0 ys0
        obtain rfl : v = .ref ta := hR
        obtain ⟨it2, rv2, ht2, hz2⟩ := I2.tuple s3.sq
        cases rv2 with
        | cons r0 rv2 =>
          rename_i u0 us0
          obtain ⟨as, rd0⟩ := At.reads I2 k0 y0 u0 pl0 (At.to (Kp.less fun _ (z : False) => z.elim) a0) r0
          have eas := Reads.bare k0 u0 as rd0 n0
          subst eas
          obtain ⟨⟨oc, vs, tt, hoc, hdc, hvc⟩, _, _⟩ := I2.hok c' _ hco2
          have ht3 : IsTup h3 ta (u0 :: us0).toArray := by
            obtain ⟨o, e, r⟩ := ht2
            exact ⟨o, kp ta o e, r⟩
          refine wpAny_mono (key0_run (A := X.A.in1.in1) (s := { s2 with heap := h3, toks := tk }) (v0 := u0) (items := (u0 :: us0).toArray) hr.r.depth (I2.nolimit.keeps kp) (kp _ _ hf) ⟨c', oc, vs, tt, rfl, kp _ _ hoc, hdc, hvc⟩ hk hco hgen hcell hy hdb (fun v => hbind _ _ _ _ _ v) ht3 rfl) (fun r s4 ⟨er, h4, tk4, es, kp4⟩ => ?_) fun _ _ z => z
          subst er es
          exact ⟨h4, tk4, rfl, kp4, PyProof.Rows.Reads.keeps kp4 (PyProof.Rows.Reads.keeps kp rd0)⟩
  · have hperm : ((ys.zip ds).mergeSort (PySem.W.dataLe false fun b : V × PyData => keyOf0 b.2)).Perm (ys.zip ds) := List.mergeSort_perm _ _
    have hA : AtL X.K O1 H2 (((ys.zip ds).mergeSort (PySem.W.dataLe false fun b : V × PyData => keyOf0 b.2)).map (·.1)) (sortK ds) := by
      have q := AtL.of_map (K := X.K) (O := O1) (H := H2) (bs := (ys.zip ds).mergeSort (PySem.W.dataLe false fun b : V × PyData => keyOf0 b.2)) fun b hb => h2.zipped b (hperm.mem_iff.mp hb)
      have q2 : ((ys.zip ds).mergeSort (PySem.W.dataLe false fun b : V × PyData => keyOf0 b.2)).map (·.2) = sortK ds := by
        have q3 := PySem.W.sort_maps (r := PySem.W.dataLe false fun b : V × PyData => keyOf0 b.2) (s := PySem.W.dataLe false keyOf0) (fun b : V × PyData => b.2) (l := ys.zip ds) (fun a _ b _ => rfl)
        rw [show (ys.zip ds).map (fun b => b.2) = ds from zip_snd hlen] at q3
        exact q3
      rw [q2] at q
      exact q
    have hsz : (((ys.zip ds).mergeSort (PySem.W.dataLe false fun b : V × PyData => keyOf0 b.2)).map (·.1)).length ≤ sizeLine := by
      rw [List.length_map, hperm.length_eq, List.length_zip]
      omega
    have nf : H2 (s2.heap.objs.size + 1) = none := I2.hok.fresh (Nat.le_succ _)
    obtain ⟨R3, k3, l3⟩ := fin_lone R2 nf hA
    exact ⟨.ref _, upd H2 (s2.heap.objs.size + 1) (.lst _), I2.laid (t' := tk) kp (Nat.le_succ _) ⟨hsz, out, c3, each_vals eo, hD⟩, rfl, q _ _ _ R3 ((k1.trans k2).trans k3) l3⟩
end
end PD
end
section
set_option Elab.async false
set_option linter.all false
set_option maxRecDepth 100000
set_option maxHeartbeats 4000000
/-! PD26: name += int; isinstance(x, (tuple, list)); a text walked. -/
namespace PD
open PySem PySem.Spec PyProof.Rows L2
variable [TB]
section
variable {K : PySem.W.Frag} {X : Cx} {p : Pm} {O O' : Ow} {σ : L2.St} {H H1 : Hp} {s : PSt} {e : Expr} {pos p1 p2 p3 p4 : Pos} {t : PTL} {te : PTE} {tg : Expr}
/-! ### name += e, ints -/
@[simp] def tAugI (i : Nat) (te : PTE) : PTS := fun E s => ∃ a, s.G[i]? = some (.v (.int a)) ∧ te s fun d s1 => ∃ b, d = .int b ∧ E.nx { s1 with G := s1.G.set i (.v (.int (a + b))) }
theorem ds_aug {i : Nat} {x : Str} {pos' : Pos} (hN : X.N.Nodup) (hi : X.N[i]? = some x) (h : DE X e te) (hx : Loc X.env.scope x := by exact .inl rfl) (hf : X.fn x = true ∨ X.env.scope.names.lookup x = some .local := by first | exact .inl rfl | exact .inr rfl | assumption) :
    DS X (.AugAssign (.Name x pos') .Add e pos) (tAugI i te) := by
  refine ⟨PS.weak (ps_aug hN hi hx h.pe ip_add hf) fun D σ H ⟨p, O, s, R, a, g, q⟩ => ?_, fun s E E' w ⟨a, g, q⟩ => ⟨a, g, h.mono _ _ _ (fun d s1 ⟨b, e1, q⟩ => ⟨b, e1, w.nx _ q⟩) q⟩⟩
  obtain ⟨y, e1, at1⟩ := R.sl i _ g
  cases at1
  refine ⟨.int a, e1, p, O, s, R, h.mono _ _ _ (fun d s1 ⟨b, ed, q⟩ v O' H' R' k' av => ?_) q⟩
  subst ed
  cases av
  exact ⟨a, b, rfl, rfl, q _ O' H' (R'.setv (.int _)) k'⟩
/-! ### isinstance(x, (tuple, list)) -/
def isTL (d : PyData) : Bool := isTupD d || d.isList
@[simp] theorem isTL_tuple (l : List PyData) : isTL (.tuple l) = true := rfl
@[simp] theorem isTL_list (l : List PyData) : isTL (.list l) = true := rfl
@[simp] theorem isTL_none : isTL .none = false := rfl
@[simp] theorem isTL_bool (b : Bool) : isTL (.bool b) = false := rfl
@[simp] theorem isTL_int (b : Int) : isTL (.int b) = false := rfl
@[simp] theorem isTL_str (b : Str) : isTL (.str b) = false := rfl
@[simp] theorem isTL_dic (t : Bool) (b : List (PyData × PyData)) : isTL (dicD t b) = false := rfl
def isTLk (d : PyData) : Bool := d.isTuple || d.isList
theorem kit_tl {K : PySem.W.Frag} {T : String} {a b : Bool} (h1 : kitB T "tuple" = some a) (h2 : kitB T "list" = some b) : PySem.W.kitAny K (.type T) [.type "tuple", .type "list"] = some (a || b) := by
  refine kitAny_cons (b := a) (kit_ty h1) (fun e => ?_) fun e => by rw [e]; rfl
  subst e
  exact kitAny_cons (b := b) (kit_ty h2) (fun e => by subst e; exact kitAny_nil) fun e => by rw [e]; rfl
theorem isa_tl {dd : Option Addr} {n : Nat} {sl : Array (Option Value)} {sh : Shared} {u : Value} {tp : Addr} {d : PyData} {as : List Addr} {Q : Value → Shared → Prop} {E : Value → Shared → Prop} {A : Around} {P : Program} {w : World} (hK : K.In sh.heap) (r : Reads sh.heap u d as)
    (h1 : sh.heap.get? tp = some ⟨.type "tuple", dd, .seq [Value.type "tuple", Value.type "list"].toArray n, sl⟩) (h : ∀ tk, Q (.bool (isTLk d)) { sh with toks := tk }) : wpAny (model P w) A (call (.builtin "isinstance") [u, .ref tp]) Q E sh := by
  cases r with
  | none => exact PySem.W.kia_tup (its := [Value.type "tuple", Value.type "list"]) PySem.W.kitx_none hK True.intro h1 (kit_tl (a := false) (b := false) (by decide +kernel) (by decide +kernel)) (fun z => nomatch z) h
  | bool b => exact PySem.W.kia_tup (its := [Value.type "tuple", Value.type "list"]) PySem.W.kitx_bool hK True.intro h1 (kit_tl (a := false) (b := false) (by decide +kernel) (by decide +kernel)) (fun z => nomatch z) h
  | int i t => exact PySem.W.kia_tup (its := [Value.type "tuple", Value.type "list"]) PySem.W.kitx_int hK True.intro h1 (kit_tl (a := false) (b := false) (by decide +kernel) (by decide +kernel)) (fun z => nomatch z) h
  | str x t => exact PySem.W.kia_tup (its := [Value.type "tuple", Value.type "list"]) PySem.W.kitx_str hK True.intro h1 (kit_tl (a := false) (b := false) (by decide +kernel) (by decide +kernel)) (fun z => nomatch z) h
  | list e1 e2 _ _ => exact PySem.W.kia_tup (its := [Value.type "tuple", Value.type "list"]) PySem.W.kitx_list hK ⟨_, e1, e2⟩ h1 (kit_tl (a := false) (b := true) (by decide +kernel) (by decide +kernel)) (fun z => nomatch z) h
  | tuple e1 e2 _ _ => exact PySem.W.kia_tup (its := [Value.type "tuple", Value.type "list"]) PySem.W.kitx_tuple hK ⟨_, e1, e2⟩ h1 (kit_tl (a := true) (b := false) (by decide +kernel) (by decide +kernel)) (fun z => nomatch z) h
  | dict e1 e2 _ _ _ => exact PySem.W.kia_tup (its := [Value.type "tuple", Value.type "list"]) PySem.W.kitx_dict hK ⟨_, e1, e2⟩ h1 (kit_tl (a := false) (b := false) (by decide +kernel) (by decide +kernel)) (fun z => nomatch z) h
@[simp] def tIsTL (t : PTL) : PTE := fun s Q => t s fun r s' => ∃ d, rd s' r = some d ∧ Q (.bool (isTL d)) s'
theorem isTL_std : ∀ d : PyData, isTLk (std d) = isTL d := std_kind _ _ (fun d h1 h2 h3 => by cases d <;> first | rfl | exact absurd rfl (h3 _)) (fun _ _ => rfl) (fun _ _ => rfl) rfl (fun k x ds es h => by show false = ((false || isPr _) || false); rw [non_pr h]; rfl) fun _ _ _ => rfl
theorem de_isTL {kk : Nat} {q1 q2 q3 : Pos} (h : DL X e t) (hg : Gl X "isinstance") (hm : X.mg "isinstance" = none) (hg1 : Gl X "tuple") (hm1 : X.mg "tuple" = none) (hg2 : Gl X "list") (hm2 : X.mg "list" = none)
    (he : starEach [e, .Tuple [.Name "tuple" q1, .Name "list" q2] kk q3] X.env = (false, eval e X.env) :: starEach [.Tuple [.Name "tuple" q1, .Name "list" q2] kk q3] X.env := by rfl) (hpl : (backTo pos (starEach [.Tuple [.Name "tuple" q1, .Name "list" q2] kk q3] X.env)).any (·.1) = false := by rfl) :
    DE X (.Call (.Name "isinstance" p1) [e, .Tuple [.Name "tuple" q1, .Name "list" q2] kk q3] [] pos) (tIsTL t) := by
  have pt := pe_tup (pos := q3) (x1 := kk) (pa_cons (pe_bltn (pos := q1) hg1 hm1 bt_tuple (v := .ty "tuple") rfl) (pa_cons (pe_bltn (pos := q2) hg2 hm2 bt_list (v := .ty "list") rfl) pa_nil))
  refine ⟨⟨fun pins s σ H Q I ⟨p, O, st, R, q⟩ => ?_⟩, fun s Q Q' w q => h.mono _ _ _ (fun r s' ⟨d, e1, q⟩ => ⟨d, e1, w _ _ q⟩) q⟩
  refine wpAny_Call_Name_kw (ld_blt I hg hm bt_isinstance ?_ (by decide) (by decide))
  refine PyProof.Rows.callWith_builtin1 (thn ((pa_cons h.pe (pa_cons pt pa_nil) he).run pos pins s σ H (fun vs H2 => ∃ v tp d, vs = [v, .ref tp] ∧ At X.K (fun _ => False) H2 v d ∧ H2 tp = some (.tup [.ty "tuple", .ty "list"]) ∧ ∀ w, At X.K (fun _ => False) H2 w (.bool (isTL d)) → Q w H2) I
    ⟨p, O, st, R, h.mono _ _ _ (fun r s1 ⟨d, e1, q⟩ v O1 H1 R1 k1 a1 => ?_) q⟩) fun us s2 ⟨vs, H2, I2, r2, v, tp, d, ev, a2, ht, q2⟩ => ?_) he hpl
  · subst ev
    obtain ⟨u1, u2, rfl, r1, r3⟩ := vals2 r2
    cases (show u2 = Value.ref tp from r3)
    obtain ⟨as, rd, _⟩ := At.readsS I2 d v u1 a2 r1
    obtain ⟨_, its, rv, o, h1, h2, n, h3⟩ := (show ObjOk X.prog X.w H2 s2.heap tp (.tup [.ty "tuple", .ty "list"]) from I2.hok tp _ ht)
    obtain ⟨oc, od, dt, sl⟩ := o
    simp only at h2 h3
    subst h2 h3
    obtain ⟨w1, w2, rfl, g1, g2⟩ := vals2 rv
    cases (show w1 = Value.type "tuple" from g1)
    cases (show w2 = Value.type "list" from g2)
    exact isa_tl I2.kIn rd h1 fun tk => ⟨.bl _, H2, I2.tok tk, rfl, by rw [isTL_std]; exact q2 _ (.bl _)⟩
  · refine ⟨by decide, fun tp ht => ⟨v, tp, d, rfl, ?_, upd_same, fun w aw => ?_⟩⟩
    · exact ((R1.read a1 e1).at0).to (Kp.new ht)
    · cases aw
      exact q _ O1 _ (R1.new ht) (k1.trans (Kp.new ht)) (.bl _)
/-! ### a text walked -/
@[simp] def signs (x : Str) : List PyData := x.cps.toList.map fun c => .str ⟨#[c]⟩
@[simp] def tWkS (t : PTL) : PTI := fun s Q => t s fun r s' => ∃ x, rd s' r = some (.str x) ∧ Q (signs x) s'
theorem it_str {G : Ow → Hp → Prop} (x : Str) : ItOk K G (Its x) (signs x) where
  go i O H g hi := by
    have hi : i < x.cps.size := by simpa using hi
    exact hi
  stop i O H g hi := by
    have hi : x.cps.size ≤ i := by simpa using hi
    exact hi
  yld i O H v H' d g nt hd y := by
    obtain ⟨rfl, c, hc, rfl⟩ := y
    have hd : (x.cps.toList.map fun c => PyData.str ⟨#[c]⟩)[i]? = some d := hd
    rw [List.getElem?_map, Array.getElem?_toList, hc] at hd
    cases hd
    exact ⟨.inl rfl, .str _⟩
theorem di_str {lo : Bool} (h : DL X e t) : DI X lo tg e (tWkS t) :=
  ⟨PI.weak (pi_str h.pe) fun σ H R ⟨p, O, s, r, q⟩ => ⟨p, O, s, r, h.mono _ _ _ (fun rv s' ⟨x, er, k⟩ v O' H' r' kp av => by
      have ae := r'.read av er
      cases ae.str
      exact ⟨x, rfl, k _ _ _ r' kp (it_str x)⟩) q⟩,
    fun s Q Q' w q => h.mono _ _ _ (fun rv s' ⟨x, er, k⟩ => ⟨x, er, w _ _ k⟩) q⟩
end
end PD
end
section
set_option Elab.async false
set_option linter.all false
set_option maxRecDepth 100000
set_option maxHeartbeats 4000000
/-! PD27: x == [], x != []; is of truth values; text * number; dict(pairs) with tuples for keys; d.get(k, x). -/
namespace PD
open PySem PySem.Spec PyProof.Rows L2
variable [TB]
section
variable {K : PySem.W.Frag} {X : Cx} {p : Pm} {O O' : Ow} {σ : L2.St} {H H1 : Hp} {s : PSt} {e : Expr} {pos p1 p2 p3 p4 apos : Pos} {te : PTE}
/-! ### x == [] -/
def eqED : PyData → PyData → Option PyData
  | .list ds, .list [] => some (.bool ds.isEmpty)
  | _, _ => none
def neED : PyData → PyData → Option PyData
  | .list ds, .list [] => some (.bool (!ds.isEmpty))
  | _, _ => none
@[simp] theorem eqED_l (ds : List PyData) : eqED (.list ds) (.list []) = some (.bool ds.isEmpty) := rfl
@[simp] theorem neED_l (ds : List PyData) : neED (.list ds) (.list []) = some (.bool (!ds.isEmpty)) := rfl
theorem lens_ne {pins : List (Addr × Obj)} {sh : Shared} {a b : Addr} {xs ys : List V} (I : Inv X pins σ H sh) (h1 : SqL X.K H a xs) (h2 : SqL X.K H b ys) (n : xs.length ≠ ys.length) :
    ∃ its jts : Array Value, sh.heap.IsList a its ∧ sh.heap.IsList b jts ∧ (its.size != jts.size) = true := by
  obtain ⟨us, r1, l1, _⟩ := I.list h1
  obtain ⟨ws, r2, l2, _⟩ := I.list h2
  refine ⟨_, _, l1.isList, l2.isList, ?_⟩
  have e1 : us.length = xs.length := (Paired.length r1).symm
  have e2 : ws.length = ys.length := (Paired.length r2).symm
  simpa [e1, e2] using n
theorem op_eqE (hu : X.A.units + 64 < cLine) : OpD X (compareOp .Eq) eqED := by
  intro p pins sh σ H O s x y v u dx dy z Q I R rx ry ax ay e k
  unfold eqED at e
  split at e
  · rename_i ds
    cases e
    cases ds with
    | nil =>
      obtain ⟨as, r1⟩ := ax.rds I rfl rx
      obtain ⟨bs, r2⟩ := ay.rds I rfl ry
      exact SeqAt.eq_plain r1 r2 rfl rfl (by simp [PyData.depth, PyData.depthAll]; omega) ⟨.bl _, H, I, rfl, k _ H R .refl (.bl _)⟩
    | cons d ds =>
      obtain ⟨a, xs, rfl, h1, h2⟩ := ax.lst
      obtain ⟨b, ys, rfl, h3, h4⟩ := ay.lst
      cases rx; cases ry
      obtain ⟨i, j, l1, l2, n⟩ := lens_ne I (SqL.of h1) (SqL.of h3) (by rw [h2.len, h4.len]; simp)
      exact SeqAt.eq_list_lengthsAt l1 l2 n (by omega) ⟨.bl _, H, I, rfl, k _ H R .refl (.bl _)⟩
  · cases e
theorem op_neE (hu : X.A.units + 64 < cLine) : OpD X (compareOp .NotEq) neED := by
  intro p pins sh σ H O s x y v u dx dy z Q I R rx ry ax ay e k
  unfold neED at e
  split at e
  · rename_i ds
    cases e
    cases ds with
    | nil =>
      obtain ⟨as, r1⟩ := ax.rds I rfl rx
      obtain ⟨bs, r2⟩ := ay.rds I rfl ry
      exact SeqAt.ne_plain r1 r2 rfl rfl (by simp [PyData.depth, PyData.depthAll]; omega) ⟨.bl _, H, I, rfl, k _ H R .refl (.bl _)⟩
    | cons d ds =>
      obtain ⟨a, xs, rfl, h1, h2⟩ := ax.lst
      obtain ⟨b, ys, rfl, h3, h4⟩ := ay.lst
      cases rx; cases ry
      obtain ⟨i, j, l1, l2, n⟩ := lens_ne I (SqL.of h1) (SqL.of h3) (by rw [h2.len, h4.len]; simp)
      have z : SeqAt.RcNeAt X.A sh (.ref a) (.ref b) true := SeqAt.RcNeAt.lists_lengths l1 l2 n (by omega)
      exact z _ _ _ _ ⟨.bl _, H, I, rfl, k _ H R .refl (.bl _)⟩
  · cases e
/-! ### x is True -/
def isBD : PyData → PyData → Option PyData
  | .bool a, .bool b => some (.bool (decide (a = b)))
  | _, _ => none
def isNotBD : PyData → PyData → Option PyData
  | .bool a, .bool b => some (.bool (!decide (a = b)))
  | _, _ => none
@[simp] theorem isBD_b (a b : Bool) : isBD (.bool a) (.bool b) = some (.bool (decide (a = b))) := rfl
@[simp] theorem isNotBD_b (a b : Bool) : isNotBD (.bool a) (.bool b) = some (.bool (!decide (a = b))) := rfl
theorem op_isB : OpD X (compareOp .Is) isBD := by
  intro p pins sh σ H O s x y v u dx dy z Q I R rx ry ax ay e k
  unfold isBD at e
  split at e
  · cases e
    cases ax.bl; cases ay.bl
    exact op_isBl pins sh σ H _ _ v u Q I rx ry ⟨_, _, rfl, rfl, k _ H R .refl (.bl _)⟩
  · cases e
theorem op_isNotB : OpD X (compareOp .IsNot) isNotBD := by
  intro p pins sh σ H O s x y v u dx dy z Q I R rx ry ax ay e k
  unfold isNotBD at e
  split at e
  · cases e
    cases ax.bl; cases ay.bl
    exact op_notBl pins sh σ H _ _ v u Q I rx ry ⟨_, _, rfl, rfl, k _ H R .refl (.bl _)⟩
  · cases e
/-! ### text * number -/
def repS (n : Nat) (x : Str) : Str := ⟨(List.replicate n x.cps).foldl (· ++ ·) #[]⟩
theorem len_rep (n : Nat) (x : Str) : (repS n x).length = x.length * n := by
  have go : ∀ (n : Nat) (a b : Array Nat), ((List.replicate n a).foldl (· ++ ·) b).size = b.size + a.size * n := fun n => by
    induction n with
    | zero => intro a b; simp
    | succ n ih =>
      intro a b
      rw [List.replicate_succ, List.foldl_cons, ih, Array.size_append, Nat.mul_succ]
      omega
  show ((List.replicate n x.cps).foldl (· ++ ·) #[]).size = _
  rw [go]
  show 0 + _ = _
  rw [Nat.zero_add]
  rfl
def mulSD : PyData → PyData → Option PyData
  | .str x, .int n => if 2 ≤ n ∧ n ≤ 1000 ∧ 1 ≤ x.length ∧ x.length ≤ 1000 then some (.str (repS n.toNat x)) else none
  | _, _ => none
theorem op_mulS : OpD X (binaryOp .Mult) mulSD := by
  intro p pins sh σ H O s x y v u dx dy z Q I R rx ry ax ay e k
  unfold mulSD at e
  split at e
  · rename_i z n
    split at e
    · rename_i hz
      obtain ⟨h1, h2, h3, h4⟩ := hz
      cases e
      cases ax.str; cases ay.int
      obtain ⟨t, rfl⟩ := rx
      obtain ⟨t2, rfl⟩ := ry
      have e1 : ¬ n < 1 := by omega
      have e2 : (n == 1 || z.length == 0) = false := by
        simp only [Bool.or_eq_false_iff, beq_eq_false_iff_ne]
        exact ⟨by omega, by omega⟩
      have e5 : z.length * n.toNat ≤ 1000 * 1000 := Nat.mul_le_mul h4 (by omega)
      refine PySem.P.mul_str (by simp only [Bool.or_eq_false_iff, decide_eq_false_iff_not]; omega) (fun _ _ => ?_) (fun _ _ => ?_) ?_
      · have : (1000 : Int) ≤ (2 ^ 63 - 1) / n := by
          have hn : (0 : Int) < n := by omega
          rw [Int.le_ediv_iff_mul_le hn]
          omega
        omega
      · have : sizeLine = 2 ^ 24 := by first | rfl | exact sizeLine_eq
        unfold Builtin.Str.tooLong
        simp only [decide_eq_false_iff_not, this]
        omega
      · rw [if_neg e1, if_neg (by rw [e2]; exact Bool.false_ne_true)]
        exact ⟨by rw [show Str.length ⟨(List.replicate n.toNat z.cps).foldl (· ++ ·) #[]⟩ = z.length * n.toNat from len_rep _ _]; have : sizeLine = 2 ^ 24 := by first | rfl | exact sizeLine_eq
                  omega, ⟨.str _, H, I.tok _, ⟨_, rfl⟩, k _ H R .refl (.str _)⟩⟩
    · cases e
  · cases e
/-! ### dict(pairs) of a list or a tuple -/
section
variable {pins : List (Addr × Obj)} {sh : Shared}
/-- where pairs stand -/
def PairsAt (K : PySem.W.Frag) (H : Hp) (a : Addr) (ps : List Addr) : Prop := SqL K H a (ps.map V.ref) ∨ TupF H a (ps.map V.ref)
theorem PairsAt.plain {ps : List Addr} (I : Inv X pins σ H sh) (h : PairsAt X.K H a ps) : ps.length ≤ sizeLine ∧ (PlainSeq "list" sh.heap a (ps.map Value.ref).toArray ∨ PlainSeq "tuple" sh.heap a (ps.map Value.ref).toArray) := by
  rcases h with h | ⟨o, hn, h⟩
  · obtain ⟨its, rv, ⟨o, n, e1, e2, e3, e4⟩, few⟩ := I.list h
    rw [List.length_map] at few
    rw [refs_at rv] at e4
    exact ⟨few, .inl ⟨o, n, e1, e2, e3, e4⟩⟩
  · obtain ⟨z1, few, its, rv, o2, z2, z3, n, z4⟩ := (show sh.heap.get? a = some o ∧ ObjOk X.prog X.w H sh.heap a (.tup (ps.map V.ref)) from I.hok a _ h)
    rw [z1] at z2
    cases z2
    rw [List.length_map] at few
    rw [refs_at rv] at z4
    exact ⟨few, .inr ⟨o, n, z1, z3, hn, z4⟩⟩
theorem items_at {g : Heap} {ps : List Addr} {prs : List (Value × Value)} (hl : prs.length = ps.length) (h : ∀ (j : Nat) (k v : Value), prs[j]? = some (k, v) → ∃ b, ps[j]? = some b ∧ IsTup g b #[k, v]) : PySem.PairItems g (ps.map Value.ref).toArray (fun j => ps.getD j 0) prs := by
  refine ⟨by simp [hl], fun j k v e => ?_⟩
  obtain ⟨b, e1, o, e2, e3, n, e4⟩ := h j k v e
  have eb : ps.getD j 0 = b := by rw [List.getD_eq_getElem?_getD, e1]; rfl
  show _ = some (Value.ref (ps.getD j 0)) ∧ PairAt g (ps.getD j 0) k v
  rw [eb]
  exact ⟨by rw [List.getElem?_toArray, List.getElem?_map, e1]; rfl, .inl ⟨o, e2, e3, n, e4⟩⟩
theorem call_dictKA (hcalm : X.calm = true) : CallR X (.type "dict") fun xs H Q => ∃ (a : Addr) (ps : List Addr) (kvs : List (Key × V)), xs = [.ref a] ∧ PairsAt X.K H a ps ∧ Paired (fun p kv => SqT X.K H p [kV kv.1, kv.2]) ps kvs ∧ ∀ p, H p = none → Q (.ref p) (upd H p (.dK (mergeK [] kvs))) := by
  rintro pins s σ H xs us Q I r ⟨a, ps, kvs, rfl, hq, hp, q⟩
  obtain ⟨u, rfl, rx⟩ := vals1 r
  cases rx
  obtain ⟨few, pl⟩ := hq.plain I
  obtain ⟨prs, rel, hl, hpr⟩ := pairs_of I hp
  obtain ⟨raw, hraw⟩ : ∃ raw : List (Value × Value), raw.length = ps.length ∧ ∀ (j : Nat) (k v : Value), raw[j]? = some (k, v) → ∃ key b, prs[j]? = some (key, v) ∧ ps[j]? = some b ∧ IsTup s.heap b #[k, v] ∧ keyIs key k = true := by
    clear rel
    have go : ∀ (prs : List (Key × Value)) (ps : List Addr), prs.length = ps.length → (∀ (j : Nat) (q : Key × Value), prs[j]? = some q → ∃ b u, ps[j]? = some b ∧ IsTup s.heap b #[u, q.2] ∧ keyIs q.1 u = true) →
        ∃ raw : List (Value × Value), raw.length = ps.length ∧ ∀ (j : Nat) (k v : Value), raw[j]? = some (k, v) → ∃ key b, prs[j]? = some (key, v) ∧ ps[j]? = some b ∧ IsTup s.heap b #[k, v] ∧ keyIs key k = true := fun prs => by
      induction prs with
      | nil => intro ps hl _; exact ⟨[], hl, fun j k v e => nomatch e⟩
      | cons pr prs ih =>
        intro ps hl h
        cases ps with
        | nil => cases hl
        | cons p0 ps =>
          obtain ⟨b, u, e1, e2, e3⟩ := h 0 pr rfl
          obtain ⟨raw, l1, l2⟩ := ih ps (by simpa using hl) fun j q e => h (j + 1) q e
          refine ⟨(u, pr.2) :: raw, by simp [l1], fun j k v e => ?_⟩
          cases j with
          | zero => cases e; exact ⟨pr.1, b, rfl, e1, e2, e3⟩
          | succ j => exact l2 j k v e
    exact go prs ps hl hpr
  have okI := items_at (g := s.heap) hraw.1 fun j k v e => by
    obtain ⟨_, b, _, e1, e2, _⟩ := hraw.2 j k v e
    exact ⟨b, e1, e2⟩
  have lr : raw.length = prs.length := hraw.1.trans hl.symm
  have hv : PairsHave (mixKind X.prog X.w) raw.length (PairRel raw) prs := ⟨lr.symm, fun i k v e => by
    obtain ⟨key, b, e1, _, _, e2⟩ := hraw.2 i k v e
    exact ⟨key, e1, e2⟩⟩
  have fin : ∀ (h' : Heap) (tk : Nat), h'.DictOf (mixKind X.prog X.w) s.heap.objs.size (merged [] prs) → (∀ (b : Addr) (o : Obj), ¬ b ∈ ([] : List Addr) → s.heap.get? b = some o → h'.get? b = some o) → EP X pins σ Q (.ref s.heap.objs.size) { s with heap := h', toks := tk } := fun h' tk hd' k => by
    have hm : (s.heap.objs.size == sysModules) = false := beq_eq_false_iff_ne.mpr (Nat.ne_of_gt I.big)
    have hlen : (mergeK [] kvs).length ≤ sizeLine := by
      refine Nat.le_trans (length_mergeK kvs []) ?_
      rw [List.length_nil, Nat.zero_add, rel.length, hl]
      exact few
    exact ⟨.ref s.heap.objs.size, upd H s.heap.objs.size (.dK (mergeK [] kvs)), I.laid (t' := tk) (fun b o e => k b o (fun z => nomatch z) e) (Nat.le_refl _) (show ObjOk X.prog X.w _ _ _ (.dK (mergeK [] kvs)) from ⟨hlen, hm, merged [] prs, KV.merge rel .nil, hd'⟩), rfl, q _ (I.hok.fresh (Nat.le_refl _))⟩
  rcases pl with pl | pl
  · exact PySem.call_dict_pairs (PairArg.list (prog := X.prog) (w := X.w) a _ (fun j => ps.getD j 0) raw) (I.ok.hd hcalm) ⟨pl, okI⟩ hv (by rw [hraw.1]; exact few) fin
  · exact PySem.call_dict_pairs (PairArg.tuple (prog := X.prog) (w := X.w) a _ (fun j => ps.getD j 0) raw) (I.ok.hd hcalm) ⟨pl, okI⟩ hv (by rw [hraw.1]; exact few) fin
theorem call_dictTA (hcalm : X.calm = true) (hu : X.A.units + 64 < cLine) (hW : SameW X) : CallR X (.type "dict") fun xs H Q => ∃ (a : Addr) (ps : List Addr) (kvs : List (List Key × Addr × V)), xs = [.ref a] ∧ PairsAt X.K H a ps ∧
    Paired (fun p kv => SqT X.K H p [.ref kv.2.1, kv.2.2] ∧ SqT X.K H kv.2.1 (kv.1.map kV)) ps kvs ∧ ∀ p ys, H p = none → Paired (fun (kv : List Key × Addr × V) (y : List Key × Addr × Value) => kv.1 = y.1 ∧ kv.2.1 = y.2.1 ∧ RelV kv.2.2 y.2.2) kvs ys → Q (.ref p) (upd H p (DxO p (storedAllH [] ys))) := by
  rintro pins s σ H xs us Q I r ⟨a, ps, kvs, rfl, hq, hp, q⟩
  obtain ⟨u, rfl, rx⟩ := vals1 r
  cases rx
  obtain ⟨few, pl⟩ := hq.plain I
  obtain ⟨ys, rel, hl, hpr⟩ : ∃ ys : List (List Key × Addr × Value), Paired (fun (kv : List Key × Addr × V) (y : List Key × Addr × Value) => kv.1 = y.1 ∧ kv.2.1 = y.2.1 ∧ RelV kv.2.2 y.2.2) kvs ys ∧ ys.length = ps.length ∧
      ∀ (j : Nat) (y : List Key × Addr × Value), ys[j]? = some y → ∃ b, ps[j]? = some b ∧ IsTup s.heap b #[.ref y.2.1, y.2.2] ∧ SqT X.K H y.2.1 (y.1.map kV) := by
    clear few pl hq q
    induction hp with
    | nil => exact ⟨[], .nil, rfl, fun j y e => nomatch e⟩
    | @cons p kv ps kvs h t ih =>
      obtain ⟨ys, r1, r2, r3⟩ := ih
      obtain ⟨its, rv, ht, _⟩ := I.tuple h.1
      obtain ⟨u, y, ei, ru, ry⟩ := vals2 rv
      subst ei
      cases (show u = Value.ref kv.2.1 from ru)
      refine ⟨(kv.1, kv.2.1, y) :: ys, .cons ⟨rfl, rfl, ry⟩ r1, by simp [r2], fun j z e => ?_⟩
      cases j with
      | zero => cases e; exact ⟨p, rfl, ht, h.2⟩
      | succ j => exact r3 j z e
  have okI := items_at (g := s.heap) (prs := ys.map fun y => (Value.ref y.2.1, y.2.2)) (ps := ps) (by simp [hl]) fun j k v e => by
    rw [List.getElem?_map] at e
    cases ey : ys[j]? with
    | none => rw [ey] at e; cases e
    | some y =>
      rw [ey] at e
      cases e
      obtain ⟨b, e1, e2, _⟩ := hpr j y ey
      exact ⟨b, e1, e2⟩
  have ln : (ys.map fun y => (Value.ref y.2.1, y.2.2)).length = ys.length := List.length_map _
  have hv : PairsHaveH (tupleKind (mixKind X.prog X.w)) (ys.map fun y => (Value.ref y.2.1, y.2.2)).length (PairRel (ys.map fun y => (Value.ref y.2.1, y.2.2))) ys := ⟨by simp, fun i k v e => by
    have e : (ys.map fun y => (Value.ref y.2.1, y.2.2))[i]? = some (k, v) := e
    rw [List.getElem?_map] at e
    cases ey : ys[i]? with
    | none => rw [ey] at e; cases e
    | some y => rw [ey] at e; cases e; exact ⟨y.1, y.2.1, rfl, rfl⟩⟩
  have keyed : ∀ y ∈ ys, SqT X.K H y.2.1 (y.1.map kV) := fun y hy => by
    obtain ⟨j, hj⟩ := List.mem_iff_getElem?.mp hy
    obtain ⟨_, _, _, e⟩ := hpr j y hj
    exact e
  have stay : KeysStay (tupleKind (mixKind X.prog X.w)) s.heap s.heap.objs.size [] ys := fun h' hk x hx => by
    obtain ⟨o2, vs, m, e1, e2, e3, e4⟩ := dx_is I (keyed x hx)
    exact ⟨o2, vs, m, hk _ _ (fun z => by
      have := Heap.lt_size e1
      rw [z] at this
      exact Nat.lt_irrefl _ this) (fun z => nomatch z) e1, e2, e3, e4⟩
  have room : (tupleKind (mixKind X.prog X.w)).room X.A.in1.in1 := tupleKind_room_in1 (A := X.A.in1) (by show X.A.units + 1 + 1 < cLine; omega)
  have few2 : (ys.map fun y => (Value.ref y.2.1, y.2.2)).length ≤ sizeLine := by rw [ln, hl]; exact few
  have fin : ∀ (h' : Heap) (tk : Nat), h'.DictOfH (tupleKind (mixKind X.prog X.w)) s.heap.objs.size (storedAllH [] ys) → (∀ (b : Addr) (o : Obj), ¬ b ∈ ([] : List Addr) → s.heap.get? b = some o → h'.get? b = some o) → EP X pins σ Q (.ref s.heap.objs.size) { s with heap := h', toks := tk } := fun h' tk hd' k => by
    have hm : (s.heap.objs.size == sysModules) = false := beq_eq_false_iff_ne.mpr (Nat.ne_of_gt I.big)
    have hlen : (storedAllH [] ys).length ≤ sizeLine := by
      have := storedAllH_length ys []
      rw [List.length_nil, Nat.zero_add, hl] at this
      exact Nat.le_trans this few
    exact ⟨.ref s.heap.objs.size, upd H s.heap.objs.size (DxO s.heap.objs.size (storedAllH [] ys)), I.laid (t' := tk) (fun b o e => k b o (fun z => nomatch z) e) (Nat.le_refl _) (dx_obj hW hlen hm hd'), rfl, q _ ys (I.hok.fresh (Nat.le_refl _)) rel⟩
  rcases pl with pl | pl
  · exact call_dict_pairsH (PairArg.list (prog := X.prog) (w := X.w) a _ (fun j => ps.getD j 0) _) (I.ok.hd hcalm) room ⟨pl, okI⟩ hv stay few2 fin
  · exact call_dict_pairsH (PairArg.tuple (prog := X.prog) (w := X.w) a _ (fun j => ps.getD j 0) _) (I.ok.hd hcalm) room ⟨pl, okI⟩ hv stay few2 fin
end
/-- the rows of pairs as what a dict is made of -/
def pairsAD (t : Bool) : List PyData → Option (List (PyData × PyData))
  | [] => some []
  | .tuple [k, d] :: ds => if keyFits t k = true then (pairsAD t ds).map ((k, d) :: ·) else none
  | _ => none
def dictAD (t : Bool) : List PyData → Option (List (PyData × PyData))
  | [.list ds] => pairsAD t ds
  | [.tuple ds] => pairsAD t ds
  | _ => none
theorem AtT.merge {kvs : List (List Key × Addr × Value)} {ds : List (PyData × PyData)} (h : AtT K O H kvs ds) : ∀ {more : List (List Key × Addr × Value)} {ms : List (PyData × PyData)}, AtT K O H more ms → AtT K O H (storedAllH kvs more) (mergeD ds ms) := fun {more ms} m => by
  induction more generalizing kvs ds ms with
  | nil => cases m; exact h
  | cons q more ih =>
    cases m with
    | cons m0 mr m1 m2 => exact ih (h.put m0 mr m1) m2
theorem atK_pairsA {xs : List V} : ∀ {ds : List PyData} {ps : List (PyData × PyData)}, AtL K O H xs ds → pairsAD false ds = some ps → ∃ (as : List Addr) (kvs : List (Key × V)), xs = as.map V.ref ∧ Paired (fun p kv => SqT K H p [kV kv.1, kv.2]) as kvs ∧ AtK K O H kvs ps := by
  induction xs with
  | nil =>
    intro ds ps h e
    cases h
    cases e
    exact ⟨[], [], rfl, .nil, .nil⟩
  | cons x xs ih =>
    intro ds ps h e
    cases h with
    | cons h1 h2 =>
      unfold pairsAD at e
      split at e
      · rename_i h; cases h
      · rename_i k d' ds' heq
        injection heq with e1 e2
        subst e1 e2
        split at e
        · rename_i hk
          obtain ⟨ps', e3, e4⟩ := Option.map_eq_some_iff.mp e
          subst e4
          obtain ⟨as, kvs, ex, hp, ha⟩ := ih h2 e3
          subst ex
          obtain ⟨k', rfl⟩ := keyOf_some (show (keyOf k).isSome = true from hk)
          cases h1 with
          | tup s1 l1 =>
            cases l1 with
            | cons c1 l1 =>
              cases l1 with
              | cons c2 l1 =>
                cases l1
                have ek := c1.key
                subst ek
                exact ⟨_ :: as, (k', _) :: kvs, rfl, .cons s1.sq hp, .cons c2 ha⟩
        · cases e
      · cases e
theorem atT_pairsA {xs : List V} : ∀ {ds : List PyData} {ps : List (PyData × PyData)}, AtL K O H xs ds → pairsAD true ds = some ps →
    ∃ (as : List Addr) (kvs : List (List Key × Addr × V)), xs = as.map V.ref ∧ Paired (fun p kv => SqT K H p [.ref kv.2.1, kv.2.2] ∧ SqT K H kv.2.1 (kv.1.map kV)) as kvs ∧
      ∀ ys, Paired (fun (kv : List Key × Addr × V) (y : List Key × Addr × Value) => kv.1 = y.1 ∧ kv.2.1 = y.2.1 ∧ RelV kv.2.2 y.2.2) kvs ys → AtT K O H ys ps := by
  induction xs with
  | nil =>
    intro ds ps h e
    cases h
    cases e
    exact ⟨[], [], rfl, .nil, fun ys r => by cases r; exact .nil⟩
  | cons x xs ih =>
    intro ds ps h e
    cases h with
    | cons h1 h2 =>
      unfold pairsAD at e
      split at e
      · rename_i h; cases h
      · rename_i k d' ds' heq
        injection heq with e1 e2
        subst e1 e2
        split at e
        · rename_i hk
          obtain ⟨ps', e3, e4⟩ := Option.map_eq_some_iff.mp e
          subst e4
          obtain ⟨as, kvs, ex, hp, ha⟩ := ih h2 e3
          subst ex
          obtain ⟨k', rfl⟩ := keysOf_some (show (keysOf k).isSome = true from hk)
          cases h1 with
          | tup s1 l1 =>
            cases l1 with
            | cons c1 l1 =>
              cases l1 with
              | cons c2 l1 =>
                cases l1
                obtain ⟨b, rfl, hb⟩ := AtE.keysV (.inl c1)
                refine ⟨_ :: as, (k', b, _) :: kvs, rfl, .cons ⟨s1.sq, hb.sq⟩ hp, fun ys r => ?_⟩
                cases r with
                | cons r1 r2 =>
                  rename_i y ys
                  obtain ⟨y1, y2, y3⟩ := y
                  obtain ⟨g1, g2, g3⟩ := r1
                  cases g1; cases g2
                  exact .cons hb g3 c2 (ha _ r2)
        · cases e
      · cases e
theorem lone_dX {q : Addr} {kvs : List (List Key × Addr × Value)} {ds : List (PyData × PyData)} (R : Rl K p O σ H s) (hq : H q = none) (l : AtT K O H kvs ds) :
    Rl K p (O.with q) σ (upd H q (DxO q kvs)) s ∧ Kp O H (O.with q) (upd H q (DxO q kvs)) ∧ Lone K p (O.with q) σ (upd H q (DxO q kvs)) s q (dicD true ds) :=
  ⟨R.newOwn hq ⟨_, _, rfl⟩, Kp.newOwn hq, .inr rfl, (R.fresh hq).1, (R.fresh hq).2.1, .dicT upd_same (l.to (Kp.newOwn hq)), (R.fresh hq).2.2⟩
theorem AtE.pairs {d : PyData} {v : V} {t : Bool} {ps : List (PyData × PyData)} (h : AtE K O H v d) (e : dictAD t [d] = some ps) : ∃ a xs ds, v = .ref a ∧ (SqL K H a xs ∨ TupF H a xs) ∧ AtL K O H xs ds ∧ pairsAD t ds = some ps := by
  unfold dictAD at e
  split at e
  · rename_i ds heq
    cases heq
    obtain ⟨a, xs, rfl, h1, h2⟩ := h.lst
    exact ⟨a, xs, ds, rfl, .inl (SqL.of h1), h2, e⟩
  · rename_i ds heq
    cases heq
    obtain ⟨a, xs, rfl, h1, h2⟩ := h.tup
    exact ⟨a, xs, ds, rfl, .inr h1.2, h2, e⟩
  · cases e
@[simp] def tDicA (k : Bool) (t : PTL) : PTE := fun s Q => t s fun r s' => ∃ d ps, rd s' r = some d ∧ dictAD k [d] = some ps ∧ Q (dicD k (mergeD [] ps)) s'
theorem df_dictA {t : PTL} {k : Bool} (hc : X.calm = true) (hu : X.A.units + 64 < cLine) (hW : SameW X) (ha : DL X e t) (hg : Gl X "dict") (hm : X.mg "dict" = none) (hs : starEach [e] X.env = (false, eval e X.env) :: starEach [] X.env := by rfl) (hpl : (backTo pos (starEach ([] : List Expr) X.env)).any (·.1) = false := by rfl) :
    DF X (.Call (.Name "dict" p1) [e] [] pos) (tDicA k t) := by
  refine ⟨?_, fun s Q Q' w q => ha.mono _ _ _ (fun r s' ⟨d, ps, e1, e2, q⟩ => ⟨d, ps, e1, e2, w _ _ q⟩) q⟩
  cases k with
  | false =>
    refine PE.weak (pe_callTy (call_dictKA hc) hg hm bt_dict (pa_cons ha.pe pa_nil hs) (by decide) (by decide) hs hpl) fun σ H Q ⟨p, O, s, R, q⟩ => ⟨p, O, s, R, ha.mono _ _ _ (fun r s' ⟨d, ps, e1, e2, q⟩ v O' H' R' k' a => ?_) q⟩
    obtain ⟨b, xs, ds, rfl, sq, l, e3⟩ := (R'.read a e1).pairs e2
    obtain ⟨as, kvs, ex, hp, hk⟩ := atK_pairsA l e3
    subst ex
    refine ⟨b, as, kvs, rfl, sq, hp, fun D hD => ?_⟩
    obtain ⟨f1, f2, f3⟩ := lone_dK R' hD (AtK.merge .nil hk)
    exact q _ _ _ f1 (k'.trans f2) f3
  | true =>
    refine PE.weak (pe_callTy (call_dictTA hc hu hW) hg hm bt_dict (pa_cons ha.pe pa_nil hs) (by decide) (by decide) hs hpl) fun σ H Q ⟨p, O, s, R, q⟩ => ⟨p, O, s, R, ha.mono _ _ _ (fun r s' ⟨d, ps, e1, e2, q⟩ v O' H' R' k' a => ?_) q⟩
    obtain ⟨b, xs, ds, rfl, sq, l, e3⟩ := (R'.read a e1).pairs e2
    obtain ⟨as, kvs, ex, hp, hk⟩ := atT_pairsA l e3
    subst ex
    refine ⟨b, as, kvs, rfl, sq, hp, fun D ys hD rel => ?_⟩
    obtain ⟨f1, f2, f3⟩ := lone_dX R' hD (AtT.merge .nil (hk ys rel))
    exact q _ _ _ f1 (k'.trans f2) f3
/-! ### d.get(k, x) -/
@[simp] def tGet2 (td : PTL) (tk tx : PTE) : PTE := fun s Q => td s fun r s1 => (∃ t ds, rd s1 r = some (dicD t ds)) ∧ tk s1 fun k s2 => tx s2 fun x s3 => ∃ t ds, rd s3 r = some (dicD t ds) ∧ keyFits t k = true ∧ Q ((lookD k ds).getD x) s3
/-- d is a dict, whatever its keys -/
theorem AtE.isD {pins : List (Addr × Obj)} {sh : Shared} {t : Bool} {ds : List (PyData × PyData)} (I : Inv X pins σ H sh) (h : AtE X.K O H v (dicD t ds)) : ∃ a, v = .ref a ∧ sh.TypeIs (.ref a) "dict" ∧ ∀ b, Value.ref a = .ref b → ∃ ob, sh.heap.get? b = some ob ∧ ob.dict = none := by
  obtain ⟨a, rfl, z⟩ := AtE.dic h
  refine ⟨a, rfl, ?_⟩
  rcases z with ⟨_, kvs, r1, _⟩ | ⟨_, kvs, r1, _⟩
  · obtain ⟨z1, z2, _⟩ := isD_at I (.inl ⟨kvs, r1⟩)
    exact ⟨z1, z2⟩
  · obtain ⟨_, _, _, o, es, ep, h1, h2, _⟩ := dx_rd I r1
    exact ⟨⟨o, h1, h2.1⟩, fun b e => by cases e; exact ⟨o, h1, h2.2.1⟩⟩
/-- what is read of d stands when it is asked -/
def tGetX (K : PySem.W.Frag) (td ty tx : TE) : TE := fun σ H Q => td σ H fun x H1 => (∃ O t ds, AtE K O H1 x (dicD t ds)) ∧ ty σ H1 fun y H2 => tx σ H2 fun z H3 => ∃ a r, x = .ref a ∧ DGo K H3 a y r ∧ Q (r.getD z) H3
theorem pe_getX {o f : Expr} {td ty tx : TE} (hu : X.A.units + 1 < cLine) (hW : SameW X) (ho : PE X o td) (he : PE X e ty) (hf : PE X f tx) (m : M2 X o "get" apos e f pos) : PE X (.Call (.Attribute o "get" apos) [e, f] [] pos) (tGetX X.K td ty tx) := by
  refine ⟨fun pins s σ H Q I h => ?_⟩
  refine wpAny_Call_method m.base m.few m.line PySem.F.plainAttrs_dict PySem.F.slot_dict_get PySem.F.type_dict_get (thn (ho.run pins s σ H _ I h) fun u s1 ⟨x, H1, I1, rx, ⟨O, t, ds, ax⟩, q1⟩ => ?_)
  obtain ⟨a, rfl, z1, z2⟩ := ax.isD I1
  obtain rfl : u = Value.ref a := rx
  refine ⟨z1, z2, ?_⟩
  rw [m.trees]
  refine Calls.callWith_builtin rfl (Calls.evalArgs_plain (Calls.spliced_cons (thn (he.run pins s1 σ H1 _ I1 q1) fun iv s2 ⟨y, H2, I2, ry, q2⟩ => Calls.spliced_cons (thn (hf.run pins s2 σ H2 _ I2 q2) fun fv s3 ⟨z, H3, I3, rz, b, r, eb, g, q3⟩ => Calls.spliced_nil ?_))))
  cases eb
  exact dgo_get2 hu hW I3 g ry rz fun w' s4 I4 rw' => ⟨_, H3, I4, rw', q3⟩
theorem de_get2 {o f : Expr} {td : PTL} {tk tx : PTE} (hu : X.A.units + 1 < cLine) (hW : SameW X) (ho : DL X o td) (he : DE X e tk) (hf : DE X f tx) (m : M2 X o "get" apos e f pos) : DE X (.Call (.Attribute o "get" apos) [e, f] [] pos) (tGet2 td tk tx) := by
  refine ⟨PE.weak (pe_getX hu hW ho.pe he.pe hf.pe m) fun σ H Q ⟨p, O, s, R, q⟩ => ⟨p, O, s, R, ho.mono _ _ _ (fun r s1 ⟨⟨t0, ds0, er⟩, q1⟩ v1 O1 H1 R1 k1 a1 => ⟨⟨O1, t0, ds0, R1.read a1 er⟩, p, O1, s1, R1, he.mono _ _ _ (fun k s2 q2 v2 O2 H2 R2 k2 a2 => ⟨p, O2, s2, R2, hf.mono _ _ _ (fun x s3 ⟨t, ds, ed, hk, q3⟩ v3 O3 H3 R3 k3 a3 => ?_) q2⟩) q1⟩) q⟩,
    fun s Q Q' w q => ho.mono _ _ _ (fun r s1 ⟨z, q1⟩ => ⟨z, he.mono _ _ _ (fun k s2 q2 => hf.mono _ _ _ (fun x s3 ⟨t, ds, ed, hk, q3⟩ => ⟨t, ds, ed, hk, w _ _ q3⟩) q2) q1⟩) q⟩
  obtain ⟨a', ov, ea, g, g1, g2⟩ := AtE.dget (R3.read (RvOk.to (k2.trans k3) a1) ed) (.inl (a2.to k3)) hk
  refine ⟨a', ov, ea, g, q3 _ O3 H3 R3 (k1.trans (k2.trans k3)) ?_⟩
  cases el : lookD k ds with
  | none => rw [g2 el]; exact a3
  | some d => obtain ⟨w, ew, aw⟩ := g1 d el; rw [ew]; exact aw
end
end PD
end
section
set_option Elab.async false
set_option linter.all false
set_option maxRecDepth 100000
set_option maxHeartbeats 4000000
/-! PD28: d.pop(k, x); d.update(e); new things by if; sorted(d), list(d); defs whose code object is known. -/
namespace PD
open PySem PySem.Spec PyProof.Rows L2
variable [TB]
section
variable {K : PySem.W.Frag} {X : Cx} {p : Pm} {O O' : Ow} {σ : L2.St} {H H1 H' : Hp} {s : PSt} {e o f : Expr} {pos apos cpos p1 p2 p3 p4 : Pos} {te tk tx : PTE} {v : V} {d : PyData}
/-! ### d.pop(k, x) -/
def dropD (k : PyData) (ds : List (PyData × PyData)) : List (PyData × PyData) := ds.filter fun q => decide (¬ sameK k q.1)
theorem AtK.drop : ∀ {kvs : List (Key × V)} {ds : List (PyData × PyData)} {k : Key}, AtK K O H kvs ds → AtK K O H (dropK kvs k) (dropD (keyD k) ds)
  | _, _, _, .nil => .nil
  | _, _, k, .cons (k := k') h1 h2 => by
    have ih := AtK.drop (k := k) h2
    unfold dropK dropD at ih ⊢
    by_cases q : k' = k
    · rw [List.filter_cons_of_neg (by simpa using q), List.filter_cons_of_neg (by simpa using same_k.mpr q)]
      exact ih
    · rw [List.filter_cons_of_pos (by simpa using q), List.filter_cons_of_pos (by simpa using fun z => q (same_k.mp z))]
      exact .cons h1 ih
theorem Rl.mdic {i : Nat} {ds : List (PyData × PyData)} (R : Rl K p O σ H s) (g : s.G[i]? = some (.m (dicD false ds))) : ∃ b kvs, σ[i]? = some (some (.ref b)) ∧ H b = some (.dK kvs) ∧ AtK K O H kvs ds ∧ O b := by
  obtain ⟨b, e1, e2, _, _, e5⟩ := R.sl i _ g
  cases e5 with
  | dicK h1 h2 => exact ⟨b, _, e1, h1, h2, e2⟩
@[simp] def tDPp (i : Nat) (tk tx : PTE) : PTE := fun s Q => (∃ ds, s.G[i]? = some (.m (dicD false ds))) ∧ tk s fun k s1 => tx s1 fun x s2 => ∃ ds, s2.G[i]? = some (.m (dicD false ds)) ∧ keyFits false k = true ∧ Q ((lookD k ds).getD x) { s2 with G := s2.G.set i (.m (dicD false (dropD k ds))) }
theorem drop_none {kvs : List (Key × V)} {k : Key} (h : valV kvs k = none) : dropK kvs k = kvs := by
  unfold dropK
  rw [List.filter_eq_self]
  intro a ha
  unfold valV at h
  simp only [Option.map_eq_none_iff, List.find?_eq_none] at h
  simpa using h a ha
theorem de_dpop {i : Nat} (h : PE X o (tVar i)) (hk : DE X e tk) (hx : DE X f tx) (m : M2 X o "pop" apos e f cpos) : DE X (.Call (.Attribute o "pop" apos) [e, f] [] cpos) (tDPp i tk tx) := by
  refine ⟨PE.weak (pe_dpop2 h hk.pe hx.pe m) fun σ H Q ⟨p, O, s, R, ⟨ds0, g0⟩, q⟩ => ?_, fun s Q Q' w ⟨g, q⟩ => ⟨g, hk.mono _ _ _ (fun k s1 q1 => hx.mono _ _ _ (fun x s2 ⟨ds, g1, f1, q2⟩ => ⟨ds, g1, f1, w _ _ q2⟩) q1) q⟩⟩
  obtain ⟨b, kvs0, e1, e2, _, _⟩ := R.mdic g0
  refine ⟨.ref b, e1, b, rfl, .inl ⟨kvs0, .inl e2⟩, p, O, s, R, hk.mono _ _ _ (fun k s1 q1 v1 O1 H1 R1 k1 a1 => ⟨p, O1, s1, R1, hx.mono _ _ _ (fun x s2 ⟨ds, g1, f1, q2⟩ v2 O2 H2 R2 k2 a2 => ?_) q1⟩) q⟩
  obtain ⟨b', kvs, e3, e4, e5, e6⟩ := R2.mdic g1
  rw [e1] at e3
  cases e3
  obtain ⟨k', rfl⟩ := keyOf_some (show (keyOf k).isSome = true from f1)
  have ek : v1 = kV k' := a1.key
  have k3 : Kp O2 H2 O2 (upd H2 b (.dK (dropK kvs k'))) := ⟨fun c u e n => by rw [upd_ne (fun z => n (by rw [z]; exact e6))]; exact e, fun _ n _ => n⟩
  obtain ⟨R3, k4⟩ := R2.put (d' := dicD false (dropD (keyD k') ds)) (o := .dK (dropK kvs k')) g1 e1 (.dicK upd_same (e5.drop.to k3))
  obtain ⟨l1, l2⟩ := e5.look (k := k')
  have back : upd H2 b (.dK kvs) = H2 := by
    funext c
    by_cases z : c = b
    · rw [z, upd_same, e4]
    · rw [upd_ne z]
  refine ⟨kvs, k', e4, ek, fun w lw => ?_, fun ln => ?_⟩
  · cases el : lookD (keyD k') ds with
    | none => rw [l2 el] at lw; cases lw
    | some d =>
      obtain ⟨w', ew, aw⟩ := l1 d el
      rw [lw] at ew
      cases ew
      rw [el] at q2
      exact q2 w O2 _ R3 (k1.trans (k2.trans k4)) (aw.to k4)
  · cases el : lookD (keyD k') ds with
    | some d => obtain ⟨w', ew, _⟩ := l1 d el; rw [ln] at ew; cases ew
    | none =>
      rw [el] at q2
      rw [drop_none ln, back] at R3 k4
      exact q2 v2 O2 _ R3 (k1.trans (k2.trans k4)) (At.to k4 a2)
/-! ### d.update(e) -/
def tDUpd (td te : TE) : TE := fun σ H Q => td σ H fun x H1 => ∃ a, x = .ref a ∧ (∃ kvs, H1 a = some (.dK kvs)) ∧ te σ H1 fun y H2 => ∃ b kvs more, y = .ref b ∧ a ≠ b ∧ H2 a = some (.dK kvs) ∧ Rd H2 b (.dK more) ∧ kvs.length + more.length ≤ sizeLine ∧ Q .non (upd H2 a (.dK (mergeK kvs more)))
theorem pe_dupd {td ty : TE} (ho : PE X o td) (he : PE X e ty) (m : M1 X o "update" apos e cpos) : PE X (.Call (.Attribute o "update" apos) [e] [] cpos) (tDUpd td ty) := by
  refine ⟨fun pins s σ H Q I h => ?_⟩
  refine wpAny_Call_method m.base m.few m.line PySem.F.plainAttrs_dict PySem.F.slot_dict_update PySem.F.type_dict_update (thn (ho.run pins s σ H _ I h) fun u s1 ⟨x, H1, I1, rx, a, ex, ⟨kv0, d0⟩, q1⟩ => ?_)
  subst ex
  obtain rfl : u = Value.ref a := rx
  obtain ⟨t1, t2, _⟩ := isD_at I1 (.inl ⟨kv0, .inl d0⟩)
  refine ⟨t1, t2, ?_⟩
  rw [m.trees]
  refine Calls.callWith_builtin rfl (Calls.evalArgs_plain (Calls.spliced_cons (thn (he.run pins s1 σ H1 _ I1 q1) fun iv s2 ⟨y, H2, I2, ry, b, kvs, more, ey, ne, ea, eb, few, q2⟩ => Calls.spliced_nil ?_)))
  subst ey
  obtain rfl : iv = Value.ref b := ry
  obtain ⟨z1, hd1, vs, r1, dd1⟩ := dk_of I2.hok ea
  obtain ⟨z2, hd2, ws, r2, dd2⟩ := dk_rd I2.hok eb
  refine call_meetsIn PySem.F.slot_dict_update dd1.typeIs PySem.F.entry_dict_update (PySem.F.args_dict_update_2 _ _) (meets_dict_update (mixKind X.prog X.w) a b ne hd2) ⟨vs, ws, dd1, dd2, by rw [← r1.length, ← r2.length]; exact few, fun h' dd' _ hs => ?_⟩
  have len : (mergeK kvs more).length ≤ sizeLine := Nat.le_trans (length_mergeK more kvs) few
  have he : ∃ o, h'.get? a = some o := let ⟨o, _, _, h1, _⟩ := dd'; ⟨o, h1⟩
  exact ⟨.non, _, d_write I2 (by rw [ea]; exact True.intro) hs he (dk_new len hd1 (KV.merge r2 r1) dd'), rfl, q2⟩
@[simp] def tUpd (i : Nat) (te : PTE) : PTE := fun s Q => (∃ ds, s.G[i]? = some (.m (dicD false ds))) ∧ te s fun d s1 => ∃ ds ms, s1.G[i]? = some (.m (dicD false ds)) ∧ d = dicD false ms ∧ ds.length + ms.length ≤ sizeLine ∧ Q .none { s1 with G := s1.G.set i (.m (dicD false (mergeD ds ms))) }
theorem de_dupd {i : Nat} (h : PE X o (tVar i)) (he : DE X e te) (m : M1 X o "update" apos e cpos) : DE X (.Call (.Attribute o "update" apos) [e] [] cpos) (tUpd i te) := by
  refine ⟨PE.weak (pe_dupd h he.pe m) fun σ H Q ⟨p, O, s, R, ⟨ds0, g0⟩, q⟩ => ?_, fun s Q Q' w ⟨g, q⟩ => ⟨g, he.mono _ _ _ (fun d s1 ⟨ds, ms, g1, z, few, q2⟩ => ⟨ds, ms, g1, z, few, w _ _ q2⟩) q⟩⟩
  obtain ⟨b, kvs0, e1, e2, _, _⟩ := R.mdic g0
  refine ⟨.ref b, e1, b, rfl, ⟨kvs0, e2⟩, p, O, s, R, he.mono _ _ _ (fun d s1 ⟨ds, ms, g1, ed, few, q2⟩ v1 O1 H1 R1 k1 a1 => ?_) q⟩
  subst ed
  obtain ⟨b', kvs, e3, e4, e5, e6⟩ := R1.mdic g1
  rw [e1] at e3
  cases e3
  cases a1 with
  | dicK n r l =>
    rename_i c more
    have k3 : Kp O1 H1 O1 (upd H1 b (.dK (mergeK kvs more))) := ⟨fun c u e n => by rw [upd_ne (fun z => n (by rw [z]; exact e6))]; exact e, fun _ n _ => n⟩
    obtain ⟨R3, k4⟩ := R1.put (d' := dicD false (mergeD ds ms)) (o := .dK (mergeK kvs more)) g1 e1 (.dicK upd_same ((e5.merge l).to k3))
    exact ⟨c, kvs, more, rfl, fun z => n (by rw [← z]; exact e6), e4, r, by rw [e5.length, l.length]; exact few, q2 _ O1 _ R3 (k1.trans k4) .non⟩
/-! ### a if t else b, new -/
theorem df_if {c : Expr} {tt : PTT} {u w : PTE} (h : DT X c tt) (k : DF X e u) (l : DF X f w) : DF X (.IfExp c e f pos) (tIfE tt u w) := by
  refine ⟨PE.weak (pe_ifExp h.pt k.pe l.pe) fun σ H Q ⟨p, O, s, R, q⟩ => ⟨p, O, s, R, h.mono _ _ _ (fun b s' q O' H' R' k' => ?_) q⟩, fun s Q Q' z q => h.mono _ _ _ (fun b s' q => ?_) q⟩
  · cases b
    · exact ⟨p, O', s', R', l.mono _ _ _ (fun d s2 q2 a O2 H2 R2 k2 a2 => q2 a O2 H2 R2 (k'.trans k2) a2) q⟩
    · exact ⟨p, O', s', R', k.mono _ _ _ (fun d s2 q2 a O2 H2 R2 k2 a2 => q2 a O2 H2 R2 (k'.trans k2) a2) q⟩
  · cases b
    · exact l.mono _ _ _ z q
    · exact k.mono _ _ _ z q
end
/-! ### sorted(d), list(d): the keys -/
section
variable {prog : Program} {w : World} {A : Around} {E : Value → Shared → Prop} {s : Shared}
theorem key_flat {k : Key} {v : Value} (h : (mixKind prog w).is k v = true) (g : Heap) : Reads g v (keyD k) [] := keyD_reads h
theorem rel_of_key {k : Key} {v : Value} (h : (mixKind prog w).is k v = true) : RelV (kV k) v := relV_key (show keyIs k v = true from h)
theorem sorted_keys {d : Addr} {kvs : List (Key × Value)} {Q : Value → Shared → Prop} (hh : A.handled = none) (lo : (d == sysModules) = false) (hD : s.heap.DictOf (mixKind prog w) d kvs) (few : kvs.length ≤ sizeLine)
    (hal : PySem.W.AllAlike (kvs.map fun q => keyD q.1)) (hk : PySem.W.Sortable (kvs.map fun q => keyD q.1)) (hu : A.units + 2 < cLine)
    (h : ∀ (h' : Heap) (tk : Nat) (D : Addr) (out : List Value) (n : Nat), (∀ b o, s.heap.get? b = some o → h'.get? b = some o) → s.heap.get? D = none → h'.get? D = some { cls := .type "list", data := .seq out.toArray n } →
      Vals (((kvs.map (·.1)).mergeSort (PySem.W.dataLe false keyD)).map kV) out → Q (.ref D) { s with heap := h', toks := tk }) :
    wpAny (model prog w) A (call (.builtin "sorted") [.ref d]) Q E s := by
  obtain ⟨ep, hat⟩ := hD.dictAt
  refine Calls.call_function_entry kind_sorted plain_sorted entry_sorted (args_sorted1 _) ?_
  unfold Builtin.«sorted»
  refine wpAny_bind (m := checkCount "sorted" 1 1 _) (wpAny_pure (wpAny_bind (PySem.W.kdu_collect (A := A.in1) (PySem.W.kdl_dict (knd := mixKind prog w) (kvs := kvs) (ep := ep) lo) hh hat few fun h' tk acc old hacc => ?_)))
  have hl : acc.toList.length = kvs.length := by rw [Array.length_toList]; exact hacc.1
  have hv : acc.toList.length ≤ sizeLine := by rw [hl]; exact few
  have bs : PySem.W.EachIs (fun (v : Value) (k : Key) => (mixKind prog w).is k v = true) acc.toList (kvs.map (·.1)) := by
    have go : ∀ (vs : List Value) (ks : List (Key × Value)), vs.length = ks.length → (∀ (j : Nat) (v : Value), vs[j]? = some v → ∃ k x, ks[j]? = some (k, x) ∧ (mixKind prog w).is k v = true) → PySem.W.EachIs (fun (v : Value) (k : Key) => (mixKind prog w).is k v = true) vs (ks.map (·.1)) := fun vs => by
      induction vs with
      | nil => intro ks e _; cases ks with
        | nil => exact .nil
        | cons _ _ => cases e
      | cons v vs ih => intro ks e g; cases ks with
        | nil => cases e
        | cons q ks =>
          obtain ⟨k, x, e1, e2⟩ := g 0 v rfl
          cases e1
          exact .cons e2 (ih ks (by simpa using e) fun j v ev => g (j + 1) v ev)
    exact go _ _ hl fun j v e => hacc.2 j v (by rw [← Array.getElem?_toList]; exact e)
  have emap : (kvs.map (·.1)).map keyD = kvs.map fun q => keyD q.1 := by rw [List.map_map]; rfl
  refine wpAny_bind (wpAny_newList ?_ hv)
  have at1 : (h'.push { cls := .type "list", data := .seq acc.toList.toArray }).get? h'.objs.size = some (seqObj "list" acc.toList.toArray 0) := Heap.get?_push_size _ rfl
  have kept : ∀ g : Heap, PySem.W.EachIs (fun v b => ∃ as, Reads g v (keyD b) as) acc.toList (kvs.map (·.1)) := fun g => bs.mono fun _ _ z => ⟨[], key_flat z g⟩
  have S := PySem.W.SortsAt.data (prog := prog) (w := w) (A := A.in1.in1) (s := { s with heap := PySem.W.sortingHeap (h'.push { cls := .type "list", data := .seq acc.toList.toArray }) h'.objs.size acc.toList, toks := tk }) (PySem.W.each_map (R := fun v d => ∃ as, Reads _ v d as) keyD (kept _)) (by rw [emap]; exact hal) (by rw [emap]; exact hk) (PySem.W.bound_map fun k _ => by
    cases k <;> (show A.units + 1 + 1 + _ < cLine) <;> (simp only [keyD, PyData.depth]; omega))
  refine wpAny_bind (wpAny_holding (wpAny_call_entry slot_list_sort ⟨_, at1, rfl⟩ entry_list_sort ?body (args_list_sort _)))
  case body =>
    have so := PySem.W.sortVals_data (h' := PySem.W.sortingHeap (h'.push { cls := .type "list", data := .seq acc.toList.toArray }) h'.objs.size acc.toList) false bs (kept _) (by rw [emap]; exact hal)
    generalize eo : PySem.W.sortVals _ false acc.toList acc.toList = out at so
    obtain ⟨n, at2⟩ := PyProof.Rows.sortedHeap_at (out := out.toArray) at1
    have q := h (PyProof.Rows.sortedHeap (h'.push { cls := .type "list", data := .seq acc.toList.toArray }) h'.objs.size acc.toList out.toArray) tk h'.objs.size out n (fun b o e => by
      have e1 := old b o e
      have lt := Heap.lt_size e1
      rw [PyProof.Rows.sortedHeap_old (Nat.ne_of_lt lt) (by rw [size_push']; exact Nat.lt_succ_of_lt lt)]
      exact Heap.get?_push_of_some _ e1) (by
      cases z : s.heap.get? h'.objs.size with
      | none => rfl
      | some o => exact absurd (Heap.lt_size (old _ _ z)) (Nat.lt_irrefl _)) at2 (by
      have go : ∀ (vs : List Value) (ks : List Key), PySem.W.EachIs (fun (v : Value) (k : Key) => (mixKind prog w).is k v = true) vs ks → Vals (ks.map kV) vs := fun vs => by
        induction vs with
        | nil => intro ks g; cases g; exact .nil
        | cons v vs ih => intro ks g; cases g with
          | cons g1 g2 => exact .cons (rel_of_key g1) (ih _ g2)
      exact go _ _ so)
    subst eo
    refine wpAny_mono (PySem.W.list_sort_vals (prog := prog) (w := w) (A := A.in1.in1) (E := fun _ _ => False) (P := fun f s' => f = .done (.ret .none) ∧ Q (.ref h'.objs.size) s') at1 S hv ⟨rfl, q⟩) (fun f s' hf => ?_) fun _ _ z => z.elim
    obtain ⟨rfl, hq⟩ := hf
    exact ⟨_, rfl, wpAny_pure ⟨_, rfl, hq⟩⟩
theorem ok_there {P : Program} {w : World} {H : Hp} {h : Heap} {a : Addr} {o : HO} (x : ObjOk P w H h a o) : ∃ ob, h.get? a = some ob := by
  cases o with
  | lst xs => obtain ⟨_, _, _, _, e⟩ := x; exact ⟨_, e⟩
  | tup xs => obtain ⟨_, _, _, _, e, _⟩ := x; exact ⟨_, e⟩
  | dK kvs => obtain ⟨_, _, _, _, _, _, _, e, _⟩ := x; exact ⟨_, e⟩
  | dT kvs => obtain ⟨_, _, _, _, _, _, _, e, _⟩ := x; exact ⟨_, e⟩
  | set S n => obtain ⟨_, _, _, _, e, _⟩ := x; exact ⟨_, e⟩
  | ins C dx fs => obtain ⟨_, _, _, e, _⟩ := x; exact ⟨_, e⟩
  | own y => exact x
  | xd fs => obtain ⟨_, ⟨_, _, _, e, _⟩, _⟩ := x; exact ⟨_, e⟩
  | rng lo hi => obtain ⟨_, _, _, e⟩ := x; exact ⟨_, e⟩
  | frz ob u => exact ⟨_, x.1⟩
  | tbl ps => exact ⟨_, x⟩
  | met f y => exact ⟨_, x⟩
  | ext φ => exact x.2.1
end
def keysSD : List PyData → Option (List PyData)
  | [.dict ((.bool false, .none) :: ds)] => if okSort (ds.map (·.1)) then some (sortD (ds.map (·.1))) else none
  | x => sortedD x
@[simp] theorem keysSD_dic (ds : List (PyData × PyData)) : keysSD [dicD false ds] = if okSort (ds.map (·.1)) then some (sortD (ds.map (·.1))) else none := rfl
section
variable {K : PySem.W.Frag} {O : Ow} {H : Hp} {X : Cx}
theorem AtK.keysEq : ∀ {kvs : List (Key × V)} {ds : List (PyData × PyData)}, AtK K O H kvs ds → ds.map (·.1) = (kvs.map (·.1)).map keyD
  | _, _, .nil => rfl
  | _, _, .cons _ t => by rw [List.map_cons, List.map_cons, List.map_cons, AtK.keysEq t]
theorem call_keysSP (hc : X.calm = true) (hu : X.A.units + 64 < cLine) : CallF X (.builtin "sorted") keysSD := by
  intro pins sh σ H xs us Q I rv h
  obtain ⟨O, ds, z, a, e, k⟩ := h
  by_cases hd : ∃ ps, ds = [dicD false ps]
  · obtain ⟨ps, rfl⟩ := hd
    rw [keysSD_dic] at e
    split at e
    · rename_i ok
      cases e
      obtain ⟨v, rfl, av⟩ := a.one
      obtain ⟨b, rfl, z⟩ := AtE.dic (t := false) av
      rcases z with ⟨_, kvs, r1, l1⟩ | ⟨z, _⟩
      · obtain ⟨u, rfl, ru⟩ := rv.one
        cases ru
        obtain ⟨z1, hd1, vs, rel, dd⟩ := dk_rd I.hok r1
        have ek : kvs.map (·.1) = vs.map (·.1) := kvs_keys rel
        obtain ⟨p1, p2, p3, p4⟩ := okSort_of ok
        have el := l1.keysEq
        have ev : (vs.map fun q => keyD q.1) = ps.map (·.1) := by
          rw [el, ek, List.map_map]; rfl
        refine sorted_keys (I.ok.hd hc) hd1 dd (by rw [← rel.length]; exact z1) (by rw [ev]; exact p2) (by rw [ev]; exact p3) (by show X.A.units + 2 < cLine; omega) fun h' tk D out n old fr at1 vo => ?_
        have nD : H D = none := by
          cases q : H D with
          | none => rfl
          | some u => obtain ⟨ob, e1⟩ := ok_there (I.hok D u q); rw [fr] at e1; cases e1
        have eq1 : sortD (ps.map (·.1)) = ((vs.map (·.1)).mergeSort (PySem.W.dataLe false keyD)).map keyD := by
          have q3 := PySem.W.sort_maps (r := PySem.W.dataLe false keyD) (s := PySem.W.dataLe false id) keyD (l := vs.map (·.1)) (fun a _ b _ => rfl)
          rw [q3]
          unfold sortD
          rw [el, ek]
        have aL : AtL X.K O H (((vs.map (·.1)).mergeSort (PySem.W.dataLe false keyD)).map kV) (sortD (ps.map (·.1))) := by
          rw [eq1]
          exact atL_kV _
        have few : (((vs.map (·.1)).mergeSort (PySem.W.dataLe false keyD)).map kV).length ≤ sizeLine := by
          rw [List.length_map, (List.mergeSort_perm _ _).length_eq, List.length_map, ← rel.length]
          exact z1
        exact ⟨.ref D, _, I.laidN (t' := tk) old fr nD (show ObjOk X.prog X.w _ _ _ (.lst _) from ⟨few, out, n, vo, at1⟩), rfl, k D _ nD aL⟩
      · cases z
    · cases e
  · have e2 : sortedD ds = some z := by
      rw [← e]
      unfold keysSD
      split
      · exact absurd ⟨_, rfl⟩ hd
      · rfl
    exact call_sortedP hu pins sh σ H xs us Q I rv ⟨O, ds, z, a, e2, k⟩
end
/-! ### a def whose code object is known -/
structure FunC (K : PySem.W.Frag) (x qual : Str) (st : Stmt) (f : Addr) (fd : FuncData) (c : Addr) : Prop where
  ex : ∃ (oc : Value) (od : Option Addr) (kV doc pm : Value) (an : Option Addr) (ct : Value) (osl : Array (Option Value)),
    fd = PySem.W.fnOf x qual (defArgs st) (defBody st) (defScope st) .none kV doc pm an (.ref c) ct ∧ K.lookup f = some ⟨oc, od, .func fd, osl⟩ ∧ PySem.W.codeIn K (.ref c) qual = true
  kp : PySem.W.keepIn K (.ref f) = true
theorem FunC.fun {K : PySem.W.Frag} {x qual : Str} {st : Stmt} {f : Addr} {fd : FuncData} {c : Addr} (F : FunC K x qual st f fd c) : L2.Fun K x qual st f fd := by
  obtain ⟨oc, od, kV, dc, pm, an, ct, sl, e1, e2, e3⟩ := F.ex
  exact ⟨⟨oc, od, kV, dc, pm, an, .ref c, ct, sl, e1, e2, e3⟩, F.kp⟩
section
variable {P : Program} {w : World} {K : PySem.W.Frag} {mg : Str → Option Value} {base : Heap}
theorem FunC.okG {CX : CXT} {x qual : Str} {st : Stmt} {f : Addr} {fd : FuncData} {c : Addr} {N ps : List Str} {k : Nat} {sp : Sp} (F : FunC K x qual st f fd c) (S : FnScope N ps (defScope st)) (ln : ∀ xs H Q E, sp xs H Q E → xs.length = ps.length)
    (body : ∀ (A : Around) (up : List Env) (s : Shared) (H : Hp) (xs : List V) (Q : VK) (E : XK), RoomG k (A.deeper (envOfC qual (defScope st) s.heap.objs.size f (.ref c))) → sp xs H Q E →
      ∃ t, PSs (cxOf CX P w K mg base N qual (defScope st) f (.ref c) A up s H E) (defBody st) t ∧ t { nx := fun _ H' => Q .non H', rt := Q } (L2.start N xs) H) : FnG P w K mg base CX (k + 1) f fd ps sp := by
  obtain ⟨oc, od, kV, dc, pm, an, ct, sl, rfl, lk, hcd⟩ := F.ex
  refine ⟨ln, fun A up s H g us xs Q E hr e0 hb rv q => ?_⟩
  have keep0 : ∀ b o, base.get? b = some o → s.heap.get? b = some o := fun b o e => (e0.bs b o e).1
  have kin0 : K.In s.heap := e0.mod.kin.keeps keep0
  have lim0 : s.heap.NoLimit := e0.mod.nolimit.keeps keep0
  have kd : ∀ y ∈ ps.zip us, (defScope st).names.lookup y.1 = some .local ∨ ((defScope st).names.lookup y.1 = some .cell ∧ ((cellsFrom (s.heap.objs.size + 1) (defScope st).names []).lookup y.1).isSome = true) := by
    rintro ⟨n, v⟩ hy
    exact (S.par n (List.of_mem_zip hy).1).imp id fun z => ⟨z, PySem.W.cellsFrom_some _ _ _ (Or.inl z)⟩
  refine codeAny_call_function hr.r.depth (kin0 _ _ lk) rfl S.co S.gen rfl (PySem.W.codeRec_of kin0 hcd) (hb _ _ _ _ (wpAny_newFunctionEnv_cells S.kind kd fun env he s1 y => ?_))
  subst he
  refine ⟨lim0.keeps y.toInCall.keep, codeAny_func ?_⟩
  obtain ⟨t, ht, hq⟩ := body A up s H xs Q E (hr.down _) q
  have J := inv_start (CX := CX) (E := E) S hr.r.hd e0 (ln _ _ _ _ q) rv y
  refine wpAny_mono (ht.run [] s1 (L2.start N xs) H _ J hq) (fun z s2 hz => ?_) fun e s2 hz => hz
  match z, hz with
  | .ret u, ⟨v, σ2, H2, J2, r2, q2⟩ => exact ⟨v, H2, J2.os, J2.bare, J2.base, J2.hok, r2, q2⟩
  | .next, ⟨σ2, H2, J2, q2⟩ => exact ⟨.non, H2, J2.os, J2.bare, J2.base, J2.hok, rfl, q2⟩
  | .brk, ⟨_, _, _, z⟩ => exact z.elim
  | .cont, ⟨_, _, _, z⟩ => exact z.elim
theorem fnDc {x qual : Str} {st : Stmt} {f : Addr} {fd : FuncData} {c : Addr} {N ps : List Str} {k : Nat} {fr : Bool} {Fs : FSpec} (F : FunC K x qual st f fd c) (S : FnScope N ps (defScope st)) (len : ∀ avs hd Q E, Fs avs hd Q E → avs.length = ps.length)
    (hbody : ∀ (A : Around) (outer : List Env) (s : Shared) (H : Hp) (E : XK), RoomG k (A.deeper (envOfC qual (defScope st) s.heap.objs.size f (.ref c))) →
      ∃ t, DSs (cxOf CX0 P w K mg base N qual (defScope st) f (.ref c) A outer s H E).nox (defBody st) t ∧ ∀ avs hd Q E, Fs avs hd Q E → t (fnEnds fr Q) ⟨initG N avs, hd⟩) : FnG P w K mg base CX0 (k + 1) f fd ps (spD K fr Fs) := by
  refine F.okG S (fun vs H Q E ⟨O, ha, avs, hd, _, _, l, q⟩ => by rw [l.length]; exact len _ _ _ _ q) fun A outer s H vs Q E hr ⟨O, ha, avs, hd, hh, hd0, l, q⟩ => ?_
  obtain ⟨t, h, k⟩ := hbody A outer s H E hr
  exact ⟨_, h.ps.nox, def_read h.mono hh hd0 l (k _ _ _ _ q)⟩
end
end PD
end
section
set_option Elab.async false
set_option linter.all false
set_option maxRecDepth 100000
set_option maxHeartbeats 4000000
open PySem PySem.Spec PyProof.Rows L2 PD
namespace Lw
def t_is_integer : PTS :=
  (tSq (tRt false (tAnV (tIsa PyData.isInt (tSl 0)) (tNtV (tOf (tIsa PyData.isBool (tSl 0))))))
  tNx)
def t_is_within (S_is_integer : FSpec) : PTS :=
  (tSq (tRt false (tAnV (tFn S_is_integer (tCnV (tVr 0) tNlV)) (tChn leD leD (tSl 1) (tSl 0) (tSl 2))))
  tNx)
def t_is_flag : PTS :=
  (tSq (tRt false (tIsa PyData.isBool (tSl 0)))
  tNx)
def t_is_sized : PTS :=
  (tSq (tRt false (tAnV (tIsa isTupD (tSl 0)) (tChn leD leD (tSl 1) (tOf (tCl lenD (tCnL (tSl 0) tNlL))) (tSl 2))))
  tNx)
def t_are_rising : PTS :=
  (tSq (tRt false (tCl allD (tCnL (tOf (tComp (tZp (tCn (tVr 0) (tCn (tSlc slD (tSl 0) (tPrt (tK (.int 1))) tNoP) tNl))) (gTu 2 (gCo (gN 1) (gCo (gN 2) gNi))) tYs (tBin ltD (tSl 1) (tSl 2)) [1, 2])) tNlL)))
  tNx)
def t_is_name : PTS :=
  (tSq (tIfc (tOr (tNt (tBo (tIsa PyData.isStr (tSl 0)))) (tOr (tNt (tBo (tChn leD leD (tOf (tK (.int 1))) (tOf (tCl lenD (tCnL (tSl 0) tNlL))) (tOf (tK (.int 8)))))) (tBo (tBin inD (tSl 0) (tOf (tTp (tCn (tK (.str ".")) (tCn (tK (.str "..")) tNl)))))))) (tSq (tRt false (tK (.bool false)))
  tNx) tNx)
  (tSq (tRt false (tCl allD (tCnL (tOf (tComp (tWkS (tSl 0)) (gN 1) tYs (tBin inD (tSl 1) (tOf (tK (.str "abcdefghijklmnopqrstuvwxyz0123456789.")))) [1])) tNlL)))
  tNx))
def t_is_text : PTS :=
  (tSq (tRt false (tAnV (tIsa PyData.isStr (tSl 0)) (tAnV (tBin leD (tOf (tCl lenD (tCnL (tSl 0) tNlL))) (tOf (tK (.int 40)))) (tCl allD (tCnL (tOf (tComp (tWkS (tSl 0)) (gN 1) tYs (tChn leD leD (tOf (tK (.str " "))) (tSl 1) (tOf (tK (.str "~")))) [1])) tNlL)))))
  tNx)
def t_is_mode (S_is_within : FSpec) : PTS :=
  (tSq (tRt false (tFn S_is_within (tCnV (tVr 0) (tCnV (tK (.int 0)) (tCnV (tK (.int 63)) tNlV)))))
  tNx)
def t_are_named (S_is_sized S_are_rising S_is_name : FSpec) : PTS :=
  (tSq (tIfc (tOr (tNt (tBo (tIsa isTupD (tSl 0)))) (tNt (tBo (tCl allD (tCnL (tOf (tComp (tWkL (tSl 0)) (gN 1) tYs (tAnV (tFn S_is_sized (tCnV (tVr 1) (tCnV (tK (.int 2)) (tCnV (tK (.int 2)) tNlV)))) (tFn S_is_name (tCnV (tBin ixD (tSl 1) (tOf (tK (.int 0)))) tNlV))) [1])) tNlL))))) (tSq (tRt false (tK (.bool false)))
  tNx) tNx)
  (tSq (tRt false (tFn S_are_rising (tCnV (tComp (tWkL (tSl 0)) (gN 1) tYs (tBin ixD (tSl 1) (tOf (tK (.int 0)))) [1]) tNlV)))
  tNx))
def t_is_small_node (S_is_text S_is_mode : FSpec) : PTS :=
  (tSq (tIfc (tOr (tNt (tBo (tIsa isTupD (tSl 0)))) (tOr (tBo (tBin eqD (tOf (tCl lenD (tCnL (tSl 0) tNlL))) (tOf (tK (.int 0))))) (tNt (tBo (tIsa PyData.isStr (tOf (tBin ixD (tSl 0) (tOf (tK (.int 0)))))))))) (tSq (tRt false (tK (.bool false)))
  tNx) tNx)
  (tSq (tIfc (tBo (tBin eqD (tOf (tBin ixD (tSl 0) (tOf (tK (.int 0))))) (tOf (tK (.str "file"))))) (tSq (tRt false (tAnV (tBin eqD (tOf (tCl lenD (tCnL (tSl 0) tNlL))) (tOf (tK (.int 3)))) (tAnV (tFn S_is_text (tCnV (tBin ixD (tSl 0) (tOf (tK (.int 1)))) tNlV)) (tFn S_is_mode (tCnV (tBin ixD (tSl 0) (tOf (tK (.int 2)))) tNlV)))))
  tNx) tNx)
  (tSq (tRt false (tAnV (tBin eqD (tOf (tBin ixD (tSl 0) (tOf (tK (.int 0))))) (tOf (tK (.str "link")))) (tAnV (tBin eqD (tOf (tCl lenD (tCnL (tSl 0) tNlL))) (tOf (tK (.int 2)))) (tAnV (tFn S_is_text (tCnV (tBin ixD (tSl 0) (tOf (tK (.int 1)))) tNlV)) (tBin neD (tOf (tBin ixD (tSl 0) (tOf (tK (.int 1))))) (tOf (tK (.str ""))))))))
  tNx)))
def t_is_folder_node (S_is_sized S_is_mode S_are_named : FSpec) : PTS :=
  (tSq (tIfc (tOr (tNt (tBo (tFn S_is_sized (tCnV (tVr 0) (tCnV (tK (.int 3)) (tCnV (tK (.int 3)) tNlV)))))) (tOr (tNt (tBo (tIsa PyData.isStr (tOf (tBin ixD (tSl 0) (tOf (tK (.int 0)))))))) (tBo (tBin neD (tOf (tBin ixD (tSl 0) (tOf (tK (.int 0))))) (tOf (tK (.str "folder"))))))) (tSq (tRt false (tK (.bool false)))
  tNx) tNx)
  (tSq (tRt false (tAnV (tFn S_is_mode (tCnV (tBin ixD (tSl 0) (tOf (tK (.int 1)))) tNlV)) (tFn S_are_named (tCnV (tBin ixD (tSl 0) (tOf (tK (.int 2)))) tNlV))))
  tNx))
def t_is_node (S_is_small_node S_is_folder_node : FSpec) : PTS :=
  (tSq (tPr2 false true 1 2 (tMc false (tK (.int 0)) (tMc true (tLs (tCn (tTp (tCn (tVr 0) (tCn (tK (.int 0)) tNl))) tNl)) tMn)))
  (tSq (tWh (tTr (tSl 2)) (tSq (tUp (tPop 2) (gTu 2 (gCo (gN 3) (gCo (gN 4) gNi))))
  (tSq (tAugI 1 (tK (.int 1)))
  (tSq (tIfc (tOr (tBo (tBin gtD (tSl 4) (tOf (tK (.int 9))))) (tBo (tBin gtD (tSl 1) (tOf (tK (.int 200)))))) (tSq (tRt false (tK (.bool false)))
  tNx) tNx)
  (tSq (tIfc (tBo (tFn S_is_folder_node (tCnV (tVr 3) tNlV))) (tSq (tEx (tExt 2 (tComp (tWk (tBin ixD (tSl 3) (tOf (tK (.int 2))))) (gTu 2 (gCo (gN 5) (gCo (gN 6) gNi))) tYs (tTp (tCn (tVr 6) (tCn (tBin addD (tSl 4) (tOf (tK (.int 1)))) tNl))) [5, 6])))
  tNx) (tSq (tIfc (tNt (tBo (tFn S_is_small_node (tCnV (tVr 3) tNlV)))) (tSq (tRt false (tK (.bool false)))
  tNx) tNx)
  tNx))
  tNx)))))
  (tSq (tRt false (tK (.bool true)))
  tNx)))
def t_is_tree (S_is_folder_node S_is_node : FSpec) : PTS :=
  (tSq (tRt false (tAnV (tFn S_is_folder_node (tCnV (tVr 0) tNlV)) (tFn S_is_node (tCnV (tVr 0) tNlV))))
  tNx)
def t_check_tree (S_is_tree : FSpec) : PTS :=
  (tSq (tIfc (tNt (tBo (tFn S_is_tree (tCnV (tVr 0) tNlV)))) (tSq (fun _ _ => False)
  tNx) tNx)
  tNx)
def t_kind_of : PTS :=
  (tSq (tRt false (tIfE (tBo (tBin isD (tSl 0) (tOf (tK .none)))) (tK (.str "none")) (tBin ixD (tSl 0) (tOf (tK (.int 0))))))
  tNx)
def t_nodes_in : PTS :=
  (tSq (tPr2 true true 1 2 (tMc true (tLs tNl) (tMc true (tLs (tCn (tTp (tCn (tTp tNl) (tCn (tVr 0) tNl))) tNl)) tMn)))
  (tSq (tWh (tTr (tSl 2)) (tSq (tUp (tPop 2) (gTu 2 (gCo (gN 3) (gCo (gN 4) gNi))))
  (tSq (tEx (tApp 1 (tTp (tCn (tVr 3) (tCn (tVr 4) tNl)))))
  (tSq (tIfc (tBo (tBin eqD (tOf (tBin ixD (tSl 4) (tOf (tK (.int 0))))) (tOf (tK (.str "folder"))))) (tSq (tEx (tExt 2 (tComp (tWk (tBkD (tOf (tBin ixD (tSl 4) (tOf (tK (.int 2))))))) (gTu 2 (gCo (gN 5) (gCo (gN 6) gNi))) tYs (tTp (tCn (tBin addD (tSl 3) (tOf (tTp (tCn (tVr 5) tNl)))) (tCn (tVr 6) tNl))) [5, 6])))
  tNx) tNx)
  tNx))))
  (tSq (tRtV 1)
  tNx)))
def t_is_folder_mark (S_is_flag S_is_sized S_is_mode S_are_named : FSpec) : PTS :=
  (tSq (tIfc (tOr (tNt (tBo (tFn S_is_sized (tCnV (tVr 0) (tCnV (tK (.int 4)) (tCnV (tK (.int 4)) tNlV)))))) (tOr (tNt (tBo (tIsa PyData.isStr (tOf (tBin ixD (tSl 0) (tOf (tK (.int 0)))))))) (tBo (tBin neD (tOf (tBin ixD (tSl 0) (tOf (tK (.int 0))))) (tOf (tK (.str "folder"))))))) (tSq (tRt false (tK (.bool false)))
  tNx) tNx)
  (tSq (tRt false (tAnV (tFn S_is_mode (tCnV (tBin ixD (tSl 0) (tOf (tK (.int 1)))) tNlV)) (tAnV (tFn S_are_named (tCnV (tBin ixD (tSl 0) (tOf (tK (.int 2)))) tNlV)) (tFn S_is_flag (tCnV (tBin ixD (tSl 0) (tOf (tK (.int 3)))) tNlV)))))
  tNx))
def t_is_gone (S_is_sized : FSpec) : PTS :=
  (tSq (tRt false (tAnV (tFn S_is_sized (tCnV (tVr 0) (tCnV (tK (.int 1)) (tCnV (tK (.int 1)) tNlV)))) (tAnV (tIsa PyData.isStr (tOf (tBin ixD (tSl 0) (tOf (tK (.int 0)))))) (tBin eqD (tOf (tBin ixD (tSl 0) (tOf (tK (.int 0))))) (tOf (tK (.str "gone")))))))
  tNx)
def t_is_layer (S_is_small_node S_is_folder_mark S_is_gone : FSpec) : PTS :=
  (tSq (tIfc (tNt (tBo (tFn S_is_folder_mark (tCnV (tVr 0) tNlV)))) (tSq (tRt false (tK (.bool false)))
  tNx) tNx)
  (tSq (tPr2 false true 1 2 (tMc false (tK (.int 0)) (tMc true (tLs (tCn (tTp (tCn (tVr 0) (tCn (tK (.int 0)) tNl))) tNl)) tMn)))
  (tSq (tWh (tTr (tSl 2)) (tSq (tUp (tPop 2) (gTu 2 (gCo (gN 3) (gCo (gN 4) gNi))))
  (tSq (tAugI 1 (tK (.int 1)))
  (tSq (tIfc (tOr (tBo (tBin gtD (tSl 4) (tOf (tK (.int 9))))) (tBo (tBin gtD (tSl 1) (tOf (tK (.int 200)))))) (tSq (tRt false (tK (.bool false)))
  tNx) tNx)
  (tSq (tIfc (tBo (tFn S_is_folder_mark (tCnV (tVr 3) tNlV))) (tSq (tIfc (tAn (tTr (tOf (tBin ixD (tSl 3) (tOf (tK (.int 3)))))) (tBo (tBin eqD (tSl 4) (tOf (tK (.int 9)))))) (tSq (tRt false (tK (.bool false)))
  tNx) tNx)
  (tSq (tEx (tExt 2 (tComp (tWk (tBin ixD (tSl 3) (tOf (tK (.int 2))))) (gTu 2 (gCo (gN 5) (gCo (gN 6) gNi))) tYs (tTp (tCn (tVr 6) (tCn (tBin addD (tSl 4) (tOf (tK (.int 1)))) tNl))) [5, 6])))
  tNx)) (tSq (tIfc (tAn (tNt (tBo (tFn S_is_gone (tCnV (tVr 3) tNlV)))) (tNt (tBo (tFn S_is_small_node (tCnV (tVr 3) tNlV))))) (tSq (tRt false (tK (.bool false)))
  tNx) tNx)
  tNx))
  tNx)))))
  (tSq (tRt false (tK (.bool true)))
  tNx))))
def t_check_layer (S_is_layer : FSpec) : PTS :=
  (tSq (tIfc (tNt (tBo (tFn S_is_layer (tCnV (tVr 0) tNlV)))) (tSq (fun _ _ => False)
  tNx) tNx)
  tNx)
def t_made_folder (S_kind_of S_made_folder : FSpec) : PTS :=
  (tSq (tAs true (tDn false) 2)
  (tSq (tIfc (tAn (tBo (tBin eqD (tOf (tFn S_kind_of (tCnV (tVr 1) tNlV))) (tOf (tK (.str "folder"))))) (tNt (tTr (tOf (tBin ixD (tSl 0) (tOf (tK (.int 3)))))))) (tSq (tEx (tUpd 2 (tDicA false (tOf (tBin ixD (tSl 1) (tOf (tK (.int 2))))))))
  tNx) tNx)
  (tSq (tFo (tWk (tBin ixD (tSl 0) (tOf (tK (.int 2))))) (gTu 2 (gCo (gN 3) (gCo (gN 4) gNi))) (tSq (tIfc (tBo (tBin eqD (tOf (tBin ixD (tSl 4) (tOf (tK (.int 0))))) (tOf (tK (.str "gone"))))) (tSq (tEx (tDPp 2 (tVr 3) (tK .none)))
  tNx) (tSq (tIfc (tBo (tBin eqD (tOf (tBin ixD (tSl 4) (tOf (tK (.int 0))))) (tOf (tK (.str "folder"))))) (tSq (tPut (tFn S_made_folder (tCnV (tVr 4) (tCnV (tGet2 (tSl 2) (tVr 3) (tK .none)) tNlV))) 2 (tVr 3))
  tNx) (tSq (tPut (tVr 4) 2 (tVr 3))
  tNx))
  tNx))
  tNx))
  (tSq (tRt false (tTp (tCn (tK (.str "folder")) (tCn (tBin ixD (tSl 0) (tOf (tK (.int 1)))) (tCn (tCl tupleD (tCnL (tOf (tSK (tOf (tItems (tSl 2))))) tNlL)) tNl)))))
  tNx))))
def t_check_many (S_nodes_in : FSpec) : PTS :=
  (tSq (tIfc (tBo (tBin gtD (tOf (tCl lenD (tCnL (tOf (tFn S_nodes_in (tCnV (tVr 0) tNlV))) tNlL))) (tOf (tK (.int 200))))) (tSq (fun _ _ => False)
  tNx) tNx)
  (tSq (tRt false (tVr 0))
  tNx))
def t_raw_made (S_made_folder S_check_many : FSpec) : PTS :=
  (tSq (tRt false (tFn S_check_many (tCnV (tFn S_made_folder (tCnV (tVr 0) (tCnV (tVr 1) tNlV))) tNlV)))
  tNx)
def t_made (S_check_tree S_check_layer S_raw_made : FSpec) : PTS :=
  (tSq (tEx (tFn S_check_layer (tCnV (tVr 0) tNlV)))
  (tSq (tEx (tFn S_check_tree (tCnV (tVr 1) tNlV)))
  (tSq (tRt false (tFn S_raw_made (tCnV (tVr 0) (tCnV (tVr 1) tNlV))))
  tNx)))
def t_all_marks : PTS :=
  (tSq (tPr2 true true 1 2 (tMc true (tLs tNl) (tMc true (tLs (tCn (tTp (tCn (tTp tNl) (tCn (tVr 0) tNl))) tNl)) tMn)))
  (tSq (tWh (tTr (tSl 2)) (tSq (tUp (tPop 2) (gTu 2 (gCo (gN 3) (gCo (gN 4) gNi))))
  (tSq (tEx (tApp 1 (tTp (tCn (tVr 3) (tCn (tVr 4) tNl)))))
  (tSq (tIfc (tBo (tBin eqD (tOf (tBin ixD (tSl 4) (tOf (tK (.int 0))))) (tOf (tK (.str "folder"))))) (tSq (tEx (tExt 2 (tComp (tWk (tBkD (tOf (tBin ixD (tSl 4) (tOf (tK (.int 2))))))) (gTu 2 (gCo (gN 5) (gCo (gN 6) gNi))) tYs (tTp (tCn (tBin addD (tSl 3) (tOf (tTp (tCn (tVr 5) tNl)))) (tCn (tVr 6) tNl))) [5, 6])))
  tNx) tNx)
  tNx))))
  (tSq (tRtV 1)
  tNx)))
def t_check_marks (S_all_marks : FSpec) : PTS :=
  (tSq (tIfc (tBo (tBin gtD (tOf (tCl lenD (tCnL (tOf (tFn S_all_marks (tCnV (tVr 0) tNlV))) tNlL))) (tOf (tK (.int 200))))) (tSq (fun _ _ => False)
  tNx) tNx)
  (tSq (tRt false (tVr 0))
  tNx))
def t_joined (S_joined_folder : FSpec) : PTS :=
  (tSq (tIfc (tOr (tBo (tBin isD (tSl 0) (tOf (tK .none)))) (tOr (tBo (tBin neD (tOf (tBin ixD (tSl 1) (tOf (tK (.int 0))))) (tOf (tK (.str "folder"))))) (tTr (tOf (tBin ixD (tSl 1) (tOf (tK (.int 3)))))))) (tSq (tRt false (tVr 1))
  tNx) tNx)
  (tSq (tIfc (tBo (tBin neD (tOf (tBin ixD (tSl 0) (tOf (tK (.int 0))))) (tOf (tK (.str "folder"))))) (tSq (tRt false (tBin addD (tOf (tSlc slD (tSl 1) tNoP (tPrt (tK (.int 3))))) (tOf (tTp (tCn (tBin ltD (tSl 2) (tOf (tK (.int 9)))) tNl)))))
  tNx) tNx)
  (tSq (tRt false (tFn S_joined_folder (tCnV (tVr 0) (tCnV (tVr 1) (tCnV (tVr 2) tNlV)))))
  tNx)))
def t_joined_folder (S_joined : FSpec) : PTS :=
  (tSq (tAs true (tDicA false (tOf (tBin ixD (tSl 0) (tOf (tK (.int 2)))))) 3)
  (tSq (tFo (tWk (tBin ixD (tSl 1) (tOf (tK (.int 2))))) (gTu 2 (gCo (gN 4) (gCo (gN 5) gNi))) (tSq (tPut (tFn S_joined (tCnV (tGet2 (tSl 3) (tVr 4) (tK .none)) (tCnV (tVr 5) (tCnV (tBin addD (tSl 2) (tOf (tK (.int 1)))) tNlV)))) 3 (tVr 4))
  tNx))
  (tSq (tRt false (tTp (tCn (tK (.str "folder")) (tCn (tBin ixD (tSl 1) (tOf (tK (.int 1)))) (tCn (tCl tupleD (tCnL (tOf (tSK (tOf (tItems (tSl 3))))) tNlL)) (tCn (tBin ixD (tSl 0) (tOf (tK (.int 3)))) tNl))))))
  tNx)))
def t_raw_behind (S_check_marks S_joined : FSpec) : PTS :=
  (tSq (tRt false (tFn S_check_marks (tCnV (tFn S_joined (tCnV (tVr 0) (tCnV (tVr 1) (tCnV (tK (.int 0)) tNlV)))) tNlV)))
  tNx)
def t_one_behind (S_check_layer S_raw_behind : FSpec) : PTS :=
  (tSq (tEx (tFn S_check_layer (tCnV (tVr 0) tNlV)))
  (tSq (tEx (tFn S_check_layer (tCnV (tVr 1) tNlV)))
  (tSq (tRt false (tFn S_raw_behind (tCnV (tVr 0) (tCnV (tVr 1) tNlV))))
  tNx)))
def t__law_draw : PTS :=
  (tSq (tIfc (tAn (tBo (tBin eqD (tOf (tHix 0 (tK (.int 2)))) (tOf (tK (.int 0))))) (tBo (tBin ltD (tOf (tHix 0 (tK (.int 1)))) (tOf (tCl lenD (tCnL (tOf (tHix 0 (tK (.int 0)))) tNlL)))))) (tSq (tAs false (tBin ixD (tOf (tHix 0 (tK (.int 0)))) (tOf (tHix 0 (tK (.int 1))))) 2)
  (tSq (tPut (tBin addD (tOf (tHix 0 (tK (.int 1)))) (tOf (tK (.int 1)))) 0 (tK (.int 1)))
  (tSq (tPut (tBin modD (tOf (tCl intD (tCnL (tOf (tBin addD (tOf (tBin addD (tOf (tBin mulD (tOf (tHix 0 (tK (.int 3)))) (tOf (tK (.int 69621))))) (tSl 2))) (tOf (tK (.int 241))))) tNlL))) (tOf (tK (.int 2147483629)))) 0 (tK (.int 3)))
  (tSq (tIfc (tBo (tBin geD (tSl 2) (tOf (tBin powD (tOf (tK (.int 10))) (tOf (tK (.int 18))))))) (tSq (tPut (tVr 2) 0 (tK (.int 2)))
  tNx) tNx)
  tNx)))) tNx)
  (tSq (tIfc (tBo (tBin gtD (tOf (tHix 0 (tK (.int 2)))) (tOf (tK (.int 0))))) (tSq (tAs false (tBin modD (tOf (tCl intD (tCnL (tOf (tHix 0 (tK (.int 2)))) tNlL))) (tSl 1)) 3)
  (tSq (tPut (tBin divD (tOf (tHix 0 (tK (.int 2)))) (tSl 1)) 0 (tK (.int 2)))
  (tSq (tRt false (tVr 3))
  tNx))) tNx)
  (tSq (tPut (tBin addD (tOf (tHix 0 (tK (.int 4)))) (tOf (tK (.int 1)))) 0 (tK (.int 4)))
  (tSq (tAs false (tBin modD (tOf (tCl intD (tCnL (tOf (tBin mulD (tOf (tCl intD (tCnL (tOf (tBin addD (tOf (tHix 0 (tK (.int 3)))) (tOf (tBin mulD (tOf (tK (.int 7919))) (tOf (tHix 0 (tK (.int 4)))))))) tNlL))) (tOf (tK (.int 48271))))) tNlL))) (tOf (tK (.int 2147483647)))) 4)
  (tSq (tAs false (tBin modD (tOf (tCl intD (tCnL (tOf (tBin mulD (tSl 4) (tOf (tBin addD (tOf (tBin divD (tSl 4) (tOf (tK (.int 1009))))) (tOf (tK (.int 69621))))))) tNlL))) (tOf (tK (.int 2147483647)))) 4)
  (tSq (tAs false (tBin modD (tOf (tCl intD (tCnL (tOf (tBin mulD (tSl 4) (tOf (tBin addD (tOf (tBin divD (tSl 4) (tOf (tK (.int 2003))))) (tOf (tK (.int 40692))))))) tNlL))) (tOf (tK (.int 2147483399)))) 4)
  (tSq (tRt false (tBin modD (tOf (tCl intD (tCnL (tOf (tBin divD (tSl 4) (tOf (tK (.int 16))))) tNlL))) (tSl 1)))
  tNx)))))))
def t__law_any (S__law_draw : FSpec) : PTS :=
  (tSq (tRt false (tBin ixD (tSl 1) (tOf (tFn S__law_draw (tCnH 0 (tCnV (tCl lenD (tCnL (tSl 1) tNlL)) tNlV))))))
  tNx)
def t__law_is (S__law_is : FSpec) : PTS :=
  (tSq (tIfc (tBo (tIsTL (tSl 1))) (tSq (tIfc (tOr (tBo (tBin neD (tOf (tIsa isTupD (tSl 0))) (tOf (tIsa isTupD (tSl 1))))) (tNt (tBo (tIsTL (tSl 0))))) (tSq (tRt false (tK (.bool false)))
  tNx) tNx)
  (tSq (tRt false (tAnV (tBin eqD (tOf (tCl lenD (tCnL (tSl 0) tNlL))) (tOf (tCl lenD (tCnL (tSl 1) tNlL)))) (tCl allD (tCnL (tOf (tComp (tZp (tCn (tVr 0) (tCn (tVr 1) tNl))) (gTu 2 (gCo (gN 2) (gCo (gN 3) gNi))) tYs (tFn S__law_is (tCnV (tVr 2) (tCnV (tVr 3) tNlV))) [2, 3])) tNlL))))
  tNx)) tNx)
  (tSq (tIfc (tOr (tBo (tBin isD (tSl 1) (tOf (tK .none)))) (tBo (tIsa PyData.isBool (tSl 1)))) (tSq (tRt false (tIfE (tBo (tBin isD (tSl 1) (tOf (tK .none)))) (tBin isD (tSl 0) (tOf (tK .none))) (tAnV (tIsa PyData.isBool (tSl 0)) (tBin eqD (tOf (tCl reprD (tCnL (tSl 0) tNlL))) (tOf (tCl reprD (tCnL (tSl 1) tNlL)))))))
  tNx) tNx)
  (tSq (tIfc (tBo (tIsa PyData.isStr (tSl 1))) (tSq (tRt false (tAnV (tIsa PyData.isStr (tSl 0)) (tBin eqD (tOf (tCl reprD (tCnL (tSl 0) tNlL))) (tOf (tCl reprD (tCnL (tSl 1) tNlL))))))
  tNx) tNx)
  (tSq (tRt false (tAnV (tIsa PyData.isInt (tSl 0)) (tAnV (tNtV (tOf (tIsa PyData.isBool (tSl 0)))) (tBin eqD (tOf (tCl reprD (tCnL (tSl 0) tNlL))) (tOf (tCl reprD (tCnL (tSl 1) tNlL)))))))
  tNx))))
def t__law_plain_one (S__law_draw S__law_any : FSpec) : PTS :=
  (tSq (tIfc (tBo (tBin eqD (tOf (tFn S__law_draw (tCnH 0 (tCnV (tK (.int 4)) tNlV)))) (tOf (tK (.int 0))))) (tSq (tRt false (tTp (tCn (tK (.str "link")) (tCn (tFn S__law_any (tCnH 0 (tCnV (tLs (tCn (tK (.str "a")) (tCn (tK (.str "b/c")) tNl))) tNlV))) tNl))))
  tNx) tNx)
  (tSq (tRt false (tTp (tCn (tK (.str "file")) (tCn (tFn S__law_any (tCnH 0 (tCnV (tLs (tCn (tK (.str "")) (tCn (tK (.str "x")) (tCn (tK (.str "yy")) tNl)))) tNlV))) (tCn (tFn S__law_draw (tCnH 0 (tCnV (tK (.int 2)) tNlV))) tNl)))))
  tNx))
def t__law_layer (S__law_draw S__law_mark : FSpec) : PTS :=
  (tSq (tAs true (tLs tNl) 3)
  (tSq (tFo (tWk (tTp (tCn (tK (.str "a")) (tCn (tK (.str "b")) (tCn (tK (.str "c")) tNl))))) (gN 4) (tSq (tIfc (tBo (tBin eqD (tOf (tFn S__law_draw (tCnH 0 (tCnV (tK (.int 2)) tNlV)))) (tOf (tK (.int 0))))) (tSq (tEx (tApp 3 (tTp (tCn (tVr 4) (tCn (tFn S__law_mark (tCnH 0 (tCnV (tVr 1) tNlV))) tNl)))))
  tNx) tNx)
  tNx))
  (tSq (tRt false (tTp (tCn (tK (.str "folder")) (tCn (tFn S__law_draw (tCnH 0 (tCnV (tK (.int 3)) tNlV))) (tCn (tCl tupleD (tCnL (tSl 3) tNlL)) (tCn (tBin eqD (tOf (tFn S__law_draw (tCnH 0 (tCnV (tVr 2) tNlV)))) (tOf (tK (.int 0)))) tNl))))))
  tNx)))
def t__law_mark (S__law_draw S__law_plain_one S__law_layer : FSpec) : PTS :=
  (tSq (tAs false (tFn S__law_draw (tCnH 0 (tCnV (tK (.int 6)) tNlV))) 2)
  (tSq (tIfc (tBo (tBin eqD (tSl 2) (tOf (tK (.int 0))))) (tSq (tRt false (tTp (tCn (tK (.str "gone")) tNl)))
  tNx) tNx)
  (tSq (tIfc (tOr (tBo (tBin ltD (tSl 2) (tOf (tK (.int 3))))) (tBo (tBin eqD (tSl 1) (tOf (tK (.int 0)))))) (tSq (tRt false (tFn S__law_plain_one (tCnH 0 tNlV)))
  tNx) tNx)
  (tSq (tRt false (tFn S__law_layer (tCnH 0 (tCnV (tBin subD (tSl 1) (tOf (tK (.int 1)))) (tCnV (tK (.int 3)) tNlV)))))
  tNx))))
def t__law_tree (S__law_draw S__law_node : FSpec) : PTS :=
  (tSq (tAs true (tLs tNl) 2)
  (tSq (tFo (tWk (tTp (tCn (tK (.str "a")) (tCn (tK (.str "b")) (tCn (tK (.str "c")) (tCn (tK (.str "d")) tNl)))))) (gN 3) (tSq (tIfc (tBo (tBin gtD (tOf (tFn S__law_draw (tCnH 0 (tCnV (tK (.int 3)) tNlV)))) (tOf (tK (.int 0))))) (tSq (tEx (tApp 2 (tTp (tCn (tVr 3) (tCn (tFn S__law_node (tCnH 0 (tCnV (tVr 1) tNlV))) tNl)))))
  tNx) tNx)
  tNx))
  (tSq (tRt false (tTp (tCn (tK (.str "folder")) (tCn (tFn S__law_draw (tCnH 0 (tCnV (tK (.int 3)) tNlV))) (tCn (tCl tupleD (tCnL (tSl 2) tNlL)) tNl)))))
  tNx)))
def t__law_node (S__law_draw S__law_plain_one S__law_tree : FSpec) : PTS :=
  (tSq (tIfc (tOr (tBo (tBin eqD (tSl 1) (tOf (tK (.int 0))))) (tBo (tBin eqD (tOf (tFn S__law_draw (tCnH 0 (tCnV (tK (.int 3)) tNlV)))) (tOf (tK (.int 0)))))) (tSq (tRt false (tFn S__law_plain_one (tCnH 0 tNlV)))
  tNx) tNx)
  (tSq (tRt false (tFn S__law_tree (tCnH 0 (tCnV (tBin subD (tSl 1) (tOf (tK (.int 1)))) tNlV))))
  tNx))
def t__law_by_names : PTS :=
  (tSq (tRt false (tCl tupleD (tCnL (tOf (tComp (tWk (tClF keysSD (tCnL (tSl 0) tNlL))) (gN 1) tYs (tTp (tCn (tVr 1) (tCn (tBin ixD (tSl 0) (tSl 1)) tNl))) [1])) tNlL)))
  tNx)
def t__law_made (S__law_by_names S__law_made : FSpec) : PTS :=
  (tSq (tAs true (tIfE (tTr (tOf (tBin ixD (tSl 0) (tOf (tK (.int 3)))))) (tDn false) (tDicA false (tOf (tBin ixD (tSl 1) (tOf (tK (.int 2))))))) 2)
  (tSq (tFo (tWk (tBin ixD (tSl 0) (tOf (tK (.int 2))))) (gTu 2 (gCo (gN 3) (gCo (gN 4) gNi))) (tSq (tIfc (tBo (tBin eqD (tOf (tBin ixD (tSl 4) (tOf (tK (.int 0))))) (tOf (tK (.str "gone"))))) (tSq (tEx (tDPp 2 (tVr 3) (tK .none)))
  tNx) (tSq (tIfc (tBo (tBin eqD (tOf (tBin ixD (tSl 4) (tOf (tK (.int 0))))) (tOf (tK (.str "folder"))))) (tSq (tAs false (tGet2 (tSl 2) (tVr 3) (tTp (tCn (tK (.str "none")) tNl))) 5)
  (tSq (tPut (tFn S__law_made (tCnV (tVr 4) (tCnV (tIfE (tBo (tBin eqD (tOf (tBin ixD (tSl 5) (tOf (tK (.int 0))))) (tOf (tK (.str "folder"))))) (tVr 5) (tTp (tCn (tK (.str "folder")) (tCn (tK (.int 0)) (tCn (tTp tNl) tNl))))) tNlV))) 2 (tVr 3))
  tNx)) (tSq (tPut (tVr 4) 2 (tVr 3))
  tNx))
  tNx))
  tNx))
  (tSq (tRt false (tTp (tCn (tK (.str "folder")) (tCn (tBin ixD (tSl 0) (tOf (tK (.int 1)))) (tCn (tFn S__law_by_names (tCnV (tVr 2) tNlV)) tNl)))))
  tNx)))
def t__law_behind (S__law_by_names S__law_behind : FSpec) : PTS :=
  (tSq (tIfc (tTr (tOf (tBin ixD (tSl 1) (tOf (tK (.int 3)))))) (tSq (tRt false (tVr 1))
  tNx) tNx)
  (tSq (tAs true (tDicA false (tOf (tBin ixD (tSl 0) (tOf (tK (.int 2)))))) 2)
  (tSq (tFo (tWk (tBin ixD (tSl 1) (tOf (tK (.int 2))))) (gTu 2 (gCo (gN 3) (gCo (gN 4) gNi))) (tSq (tAs false (tGet2 (tSl 2) (tVr 3) (tK .none)) 5)
  (tSq (tIfc (tOr (tBo (tBin neD (tOf (tBin ixD (tSl 4) (tOf (tK (.int 0))))) (tOf (tK (.str "folder"))))) (tOr (tBo (tBin isD (tSl 5) (tOf (tK .none)))) (tTr (tOf (tBin ixD (tSl 4) (tOf (tK (.int 3)))))))) (tSq (tPut (tVr 4) 2 (tVr 3))
  tNx) (tSq (tIfc (tBo (tBin eqD (tOf (tBin ixD (tSl 5) (tOf (tK (.int 0))))) (tOf (tK (.str "folder"))))) (tSq (tPut (tFn S__law_behind (tCnV (tVr 5) (tCnV (tVr 4) tNlV))) 2 (tVr 3))
  tNx) (tSq (tPut (tBin addD (tOf (tSlc slD (tSl 4) tNoP (tPrt (tK (.int 3))))) (tOf (tTp (tCn (tK (.bool true)) tNl)))) 2 (tVr 3))
  tNx))
  tNx))
  tNx)))
  (tSq (tRt false (tTp (tCn (tK (.str "folder")) (tCn (tBin ixD (tSl 1) (tOf (tK (.int 1)))) (tCn (tFn S__law_by_names (tCnV (tVr 2) tNlV)) (tCn (tBin ixD (tSl 0) (tOf (tK (.int 3)))) tNl))))))
  tNx))))
def t__law_trees (S__law_tree : FSpec) : PTS :=
  (tSq (tRt false (tBin addD (tOf (tComp (tRg1 (tCn (tVr 1) tNl)) (gN 2) tYs (tFn S__law_tree (tCnH 0 (tCnV (tK (.int 2)) tNlV))) [2])) (tOf (tLs (tCn (tTp (tCn (tK (.str "folder")) (tCn (tK (.int 0)) (tCn (tTp tNl) tNl)))) tNl)))))
  tNx)
def t__law_is_right (S_made S_one_behind S__law_any S__law_is S__law_layer S__law_made S__law_behind S__law_trees : FSpec) : PTS :=
  (tSq (tUp (tComp (tRg1 (tCn (tK (.int 3)) tNl)) (gN 4) tYs (tFn S__law_layer (tCnH 0 (tCnV (tK (.int 2)) (tCnV (tFn S__law_any (tCnH 0 (tCnV (tLs (tCn (tK (.int 2)) (tCn (tK (.int 4)) (tCn (tK (.int 9)) tNl)))) tNlV))) tNlV)))) [4]) (gTu 3 (gCo (gN 1) (gCo (gN 2) (gCo (gN 3) gNi)))))
  (tSq (tPr2 false false 5 6 (tMc false (tCl reprD (tCnL (tOf (tLs (tCn (tVr 1) (tCn (tVr 2) tNl)))) tNlL)) (tMc false (tFn S_one_behind (tCnV (tVr 1) (tCnV (tVr 2) tNlV))) tMn)))
  (tSq (tIfc (tOr (tNt (tBo (tFn S__law_is (tCnV (tVr 6) (tCnV (tFn S__law_behind (tCnV (tVr 1) (tCnV (tVr 2) tNlV))) tNlV))))) (tBo (tBin neD (tOf (tCl reprD (tCnL (tOf (tLs (tCn (tVr 1) (tCn (tVr 2) tNl)))) tNlL))) (tSl 5)))) (tSq (tRt false (tK (.bool false)))
  tNx) tNx)
  (tSq (tFo (tWk (tFn S__law_trees (tCnH 0 (tCnV (tK (.int 4)) tNlV)))) (gN 7) (tSq (tAs false (tFn S__law_made (tCnV (tVr 2) (tCnV (tFn S__law_made (tCnV (tVr 1) (tCnV (tVr 7) tNlV))) tNlV))) 8)
  (tSq (tIfc (tNt (tBo (tFn S__law_is (tCnV (tLs (tCn (tFn S_made (tCnV (tVr 6) (tCnV (tVr 7) tNlV))) (tCn (tFn S_made (tCnV (tVr 2) (tCnV (tFn S_made (tCnV (tVr 1) (tCnV (tVr 7) tNlV))) tNlV))) tNl))) (tCnV (tLs (tCn (tVr 8) (tCn (tVr 8) tNl))) tNlV))))) (tSq (tRt false (tK (.bool false)))
  tNx) tNx)
  tNx)))
  (tSq (tIfc (tBo (tBin neD (tOf (tFn S_one_behind (tCnV (tVr 6) (tCnV (tVr 3) tNlV)))) (tOf (tFn S_one_behind (tCnV (tVr 1) (tCnV (tFn S_one_behind (tCnV (tVr 2) (tCnV (tVr 3) tNlV))) tNlV)))))) (tSq (tRt false (tK (.bool false)))
  tNx) tNx)
  (tSq (tAs false (tTp (tCn (tK (.str "folder")) (tCn (tBin ixD (tSl 1) (tOf (tK (.int 1)))) (tCn (tTp tNl) (tCn (tK (.bool false)) tNl))))) 9)
  (tSq (tRt false (tFn S__law_is (tCnV (tLs (tCn (tFn S_one_behind (tCnV (tVr 1) (tCnV (tVr 9) tNlV))) (tCn (tFn S_one_behind (tCnV (tVr 9) (tCnV (tVr 1) tNlV))) tNl))) (tCnV (tLs (tCn (tVr 1) (tCn (tVr 1) tNl))) tNlV))))
  tNx)))))))
end Lw
end
section
set_option Elab.async false
set_option linter.all false
set_option maxRecDepth 100000
set_option maxHeartbeats 4000000
/-! ML1: names by their order, rows of names with what stands there. -/
namespace Lw
open PySem PySem.Spec PyProof.Rows L2 PD
def slt (x y : Str) : Prop := x.cps.toList < y.cps.toList
instance : DecidableRel slt := fun x y => inferInstanceAs (Decidable (x.cps.toList < y.cps.toList))
theorem slt_irrefl (x : Str) : ¬ slt x x := List.lt_irrefl _
theorem slt_trans {x y z : Str} (h : slt x y) (k : slt y z) : slt x z := List.lt_trans h k
theorem slt_asymm {x y : Str} (h : slt x y) : ¬ slt y x := fun k => slt_irrefl x (slt_trans h k)
theorem slt_tri (x y : Str) : slt x y ∨ x = y ∨ slt y x := by
  by_cases h : slt x y
  · exact .inl h
  · by_cases k : slt y x
    · exact .inr (.inr k)
    · refine .inr (.inl (PySem.W.str_of_cps ?_))
      exact List.le_antisymm (List.not_lt.mp k) (List.not_lt.mp h)
section
variable {α : Type}
def get : List (Str × α) → Str → Option α
  | [], _ => none
  | (n, m) :: r, k => if n = k then some m else get r k
def Rise (es : List (Str × α)) : Prop := es.Pairwise fun a b => slt a.1 b.1
def Uniq (es : List (Str × α)) : Prop := (es.map (·.1)).Nodup
theorem Rise.uniq {es : List (Str × α)} (h : Rise es) : Uniq es := by
  unfold Uniq
  rw [List.Nodup, List.pairwise_map]
  refine List.Pairwise.imp (R := fun a b : Str × α => slt a.1 b.1) (fun {a b} z => ?_) h
  intro e
  exact slt_irrefl b.1 (by rw [e] at z; exact z)
@[simp] theorem get_nil (k : Str) : get ([] : List (Str × α)) k = none := rfl
theorem get_cons (n : Str) (m : α) (r : List (Str × α)) (k : Str) : get ((n, m) :: r) k = if n = k then some m else get r k := rfl
theorem get_mem {es : List (Str × α)} {k : Str} {m : α} (h : get es k = some m) : (k, m) ∈ es := by
  induction es with
  | nil => cases h
  | cons p r ih =>
    obtain ⟨n, x⟩ := p
    rw [get_cons] at h
    split at h
    · rename_i e; cases h; subst e; exact List.mem_cons_self
    · exact List.mem_cons_of_mem _ (ih h)
theorem get_none {es : List (Str × α)} {k : Str} : get es k = none ↔ k ∉ es.map (·.1) := by
  induction es with
  | nil => simp
  | cons p r ih =>
    obtain ⟨n, x⟩ := p
    rw [get_cons, List.map_cons, List.mem_cons]
    by_cases e : n = k
    · rw [if_pos e]; simp [e]
    · rw [if_neg e, ih]
      exact ⟨fun h z => z.elim (fun z => e z.symm) h, fun h z => h (.inr z)⟩
theorem mem_get {es : List (Str × α)} (u : Uniq es) {k : Str} {m : α} (h : (k, m) ∈ es) : get es k = some m := by
  induction es with
  | nil => cases h
  | cons p r ih =>
    obtain ⟨n, x⟩ := p
    unfold Uniq at u
    rw [List.map_cons, List.nodup_cons] at u
    rw [get_cons]
    rcases List.mem_cons.mp h with e | h
    · cases e; rw [if_pos rfl]
    · rw [if_neg fun e => u.1 (by rw [e]; exact List.mem_map.mpr ⟨_, h, rfl⟩)]
      exact ih u.2 h
theorem get_append (a b : List (Str × α)) (k : Str) : get (a ++ b) k = (get a k).or (get b k) := by
  induction a with
  | nil => rfl
  | cons p r ih =>
    obtain ⟨n, x⟩ := p
    rw [List.cons_append, get_cons, get_cons]
    split
    · rfl
    · exact ih
/-- rising rows are told by what stands at names -/
theorem rise_ext : ∀ {a b : List (Str × α)}, Rise a → Rise b → (∀ k, get a k = get b k) → a = b
  | [], [], _, _, _ => rfl
  | [], (n, m) :: r, _, _, h => by have := h n; rw [get_cons, if_pos rfl] at this; cases this
  | (n, m) :: r, [], _, _, h => by have := h n; rw [get_cons, if_pos rfl] at this; cases this
  | (n, m) :: r, (n', m') :: r', ha, hb, h => by
    have ha' := List.pairwise_cons.mp ha
    have hb' := List.pairwise_cons.mp hb
    have e : n = n' := by
      rcases slt_tri n n' with z | z | z
      · have := h n
        rw [get_cons, if_pos rfl, get_cons, if_neg fun e => slt_irrefl _ (e ▸ z)] at this
        exact absurd z (slt_asymm (hb'.1 _ (get_mem this.symm)))
      · exact z
      · have := h n'
        rw [get_cons, if_neg (fun e => slt_irrefl _ (e ▸ z)), get_cons, if_pos rfl] at this
        exact absurd z (slt_asymm (ha'.1 _ (get_mem this)))
    subst e
    have em : m = m' := by
      have := h n
      rw [get_cons, if_pos rfl, get_cons, if_pos rfl] at this
      exact Option.some.inj this
    subst em
    rw [rise_ext ha'.2 hb'.2 fun k => ?_]
    have := h k
    rw [get_cons, get_cons] at this
    by_cases e : n = k
    · subst e
      have n1 : get r n = none := get_none.mpr fun z => by
        obtain ⟨p, hp, ep⟩ := List.mem_map.mp z
        exact slt_irrefl n (ep ▸ ha'.1 p hp)
      have n2 : get r' n = none := get_none.mpr fun z => by
        obtain ⟨p, hp, ep⟩ := List.mem_map.mp z
        exact slt_irrefl n (ep ▸ hb'.1 p hp)
      rw [n1, n2]
    · rwa [if_neg e, if_neg e] at this
/-- another one at a name -/
def insR (k : Str) (m : α) : List (Str × α) → List (Str × α)
  | [] => [(k, m)]
  | (n, x) :: r => if slt k n then (k, m) :: (n, x) :: r else if n = k then (k, m) :: r else (n, x) :: insR k m r
def drop (k : Str) (es : List (Str × α)) : List (Str × α) := es.filter fun p => decide (p.1 ≠ k)
theorem insR_mem {k : Str} {m : α} : ∀ {es : List (Str × α)} {p : Str × α}, p ∈ insR k m es → p = (k, m) ∨ p ∈ es
  | [], p, h => .inl (List.mem_singleton.mp h)
  | (n, x) :: r, p, h => by
    unfold insR at h
    split at h
    · exact (List.mem_cons.mp h)
    · split at h
      · exact (List.mem_cons.mp h).imp id (List.mem_cons_of_mem _)
      · rcases List.mem_cons.mp h with e | h
        · exact .inr (by rw [e]; exact List.mem_cons_self)
        · exact (insR_mem h).imp id (List.mem_cons_of_mem _)
theorem insR_rise {k : Str} {m : α} : ∀ {es : List (Str × α)}, Rise es → Rise (insR k m es)
  | [], _ => List.pairwise_singleton _ _
  | (n, x) :: r, h => by
    have h' := List.pairwise_cons.mp h
    unfold insR
    split
    · rename_i z
      refine List.pairwise_cons.mpr ⟨fun p hp => ?_, h⟩
      rcases List.mem_cons.mp hp with e | hp
      · rw [e]; exact z
      · exact slt_trans z (h'.1 p hp)
    · split
      · rename_i e
        subst e
        exact List.pairwise_cons.mpr ⟨h'.1, h'.2⟩
      · rename_i z1 z2
        refine List.pairwise_cons.mpr ⟨fun p hp => ?_, insR_rise h'.2⟩
        rcases insR_mem hp with e | hp
        · rw [e]
          rcases slt_tri n k with y | y | y
          · exact y
          · exact absurd y z2
          · exact absurd y z1
        · exact h'.1 p hp
theorem get_insR {k j : Str} {m : α} : ∀ {es : List (Str × α)}, Rise es → get (insR k m es) j = if k = j then some m else get es j
  | [], _ => rfl
  | (n, x) :: r, h => by
    have h' := List.pairwise_cons.mp h
    unfold insR
    split
    · rw [get_cons]
    · split
      · rename_i e
        subst e
        rw [get_cons, get_cons]
        split <;> rfl
      · rename_i z1 z2
        rw [get_cons, get_insR h'.2, get_cons]
        by_cases e : n = j
        · rw [if_pos e, if_pos e, if_neg fun y => z2 (e.trans y.symm)]
        · rw [if_neg e, if_neg e]
theorem get_drop (k j : Str) (es : List (Str × α)) : get (drop k es) j = if k = j then none else get es j := by
  induction es with
  | nil => unfold drop; simp
  | cons p r ih =>
    obtain ⟨n, x⟩ := p
    unfold drop at ih ⊢
    by_cases e : n = k
    · rw [List.filter_cons_of_neg (by simpa using e), ih, get_cons]
      subst e
      split <;> rfl
    · rw [List.filter_cons_of_pos (by simpa using e), get_cons, ih, get_cons]
      by_cases y : n = j
      · rw [if_pos y, if_pos y, if_neg fun z => e (y.trans z.symm)]
      · rw [if_neg y, if_neg y]
theorem drop_rise {k : Str} {es : List (Str × α)} (h : Rise es) : Rise (drop k es) := h.filter _
theorem drop_uniq {k : Str} {es : List (Str × α)} (h : Uniq es) : Uniq (drop k es) := by
  unfold Uniq drop at *
  exact (List.filter_sublist.map _).nodup h
/-- d[k] = m -/
def put (k : Str) (m : α) (es : List (Str × α)) : List (Str × α) := if (get es k).isSome then es.map fun p => if p.1 = k then (p.1, m) else p else es ++ [(k, m)]
theorem get_repl (k j : Str) (m : α) (es : List (Str × α)) : get (es.map fun p => if p.1 = k then (p.1, m) else p) j = if k = j then (get es k).map (fun _ => m) else get es j := by
  induction es with
  | nil => simp
  | cons p r ih =>
    obtain ⟨n, x⟩ := p
    rw [List.map_cons]
    by_cases e : n = k
    · subst e
      rw [if_pos rfl, get_cons, ih, get_cons, get_cons, if_pos rfl]
      by_cases y : n = j
      · rw [if_pos y, if_pos y]; rfl
      · rw [if_neg y, if_neg y, if_neg y, if_neg y]
    · rw [if_neg e, get_cons, ih, get_cons, get_cons, if_neg e]
      by_cases y : n = j
      · rw [if_pos y, if_pos y, if_neg fun z => e (y.trans z.symm)]
      · rw [if_neg y, if_neg y]
theorem get_put (k j : Str) (m : α) (es : List (Str × α)) : get (put k m es) j = if k = j then some m else get es j := by
  unfold put
  by_cases h : (get es k).isSome = true
  · rw [if_pos h, get_repl]
    obtain ⟨x, hx⟩ := Option.isSome_iff_exists.mp h
    rw [hx]; rfl
  · rw [if_neg h, get_append, get_cons]
    have hn : get es k = none := by simpa using h
    by_cases e : k = j
    · rw [if_pos e, if_pos e, ← e, hn]; rfl
    · rw [if_neg e, if_neg e, get_nil, Option.or_none]
theorem put_uniq {k : Str} {m : α} {es : List (Str × α)} (h : Uniq es) : Uniq (put k m es) := by
  unfold put
  split
  · unfold Uniq at *
    rw [List.map_map]
    have : es.map ((fun p : Str × α => p.1) ∘ fun p => if p.1 = k then (p.1, m) else p) = es.map (·.1) := List.map_congr_left fun p _ => by
      show (if p.1 = k then (p.1, m) else p).1 = p.1
      split <;> rfl
    rw [this]; exact h
  · rename_i z
    unfold Uniq at *
    rw [List.map_append, List.nodup_append]
    refine ⟨h, by simp, fun a ha b hb e => ?_⟩
    simp at hb
    subst hb
    subst e
    have : get es a = none := by simpa using z
    exact get_none.mp this ha
theorem put_length (k : Str) (m : α) (es : List (Str × α)) : (put k m es).length ≤ es.length + 1 := by
  unfold put
  split
  · simp
  · simp
/-- a row and the rising row of the same -/
theorem uniq_perm {a b : List (Str × α)} (ha : Uniq a) (hb : Uniq b) (h : ∀ k, get a k = get b k) : a.Perm b := by
  have na : a.Nodup := List.Pairwise.imp (fun {x y} (z : x.1 ≠ y.1) e => z (by rw [e])) (List.pairwise_map.mp ha)
  have nb : b.Nodup := List.Pairwise.imp (fun {x y} (z : x.1 ≠ y.1) e => z (by rw [e])) (List.pairwise_map.mp hb)
  refine (List.perm_ext_iff_of_nodup na nb).mpr fun p => ?_
  obtain ⟨k, m⟩ := p
  exact ⟨fun z => get_mem (by rw [← h]; exact mem_get ha z), fun z => get_mem (by rw [h]; exact mem_get hb z)⟩
/-- one row put over another one -/
def over (b : List (Str × α)) (u : List (Str × Option α)) : List (Str × α) := u.foldl (fun acc q => match q.2 with | none => drop q.1 acc | some m => insR q.1 m acc) b
theorem over_snoc (b : List (Str × α)) (u : List (Str × Option α)) (q : Str × Option α) : over b (u ++ [q]) = match q.2 with | none => drop q.1 (over b u) | some m => insR q.1 m (over b u) := by
  unfold over; rw [List.foldl_append]; rfl
theorem over_rise {u : List (Str × Option α)} : ∀ {b : List (Str × α)}, Rise b → Rise (over b u) := by
  induction u with
  | nil => intro b h; exact h
  | cons q u ih =>
    intro b h
    show Rise (over (match q.2 with | none => drop q.1 b | some m => insR q.1 m b) u)
    refine ih ?_
    cases q.2 with
    | none => exact drop_rise h
    | some m => exact insR_rise h
theorem get_over {u : List (Str × Option α)} (hu : Uniq u) : ∀ {b : List (Str × α)}, Rise b → ∀ k, get (over b u) k = match get u k with | none => get b k | some v => v := by
  induction u with
  | nil => intro b h k; rfl
  | cons q u ih =>
    intro b h k
    obtain ⟨n, v⟩ := q
    unfold Uniq at hu
    rw [List.map_cons, List.nodup_cons] at hu
    have nn : get u n = none := get_none.mpr hu.1
    rw [get_cons]
    cases v with
    | none =>
      show get (over (drop n b) u) k = _
      rw [ih hu.2 (drop_rise h), get_drop]
      by_cases e : n = k
      · subst e; rw [nn, if_pos rfl, if_pos rfl]
      · rw [if_neg e, if_neg e]
    | some m =>
      show get (over (insR n m b) u) k = _
      rw [ih hu.2 (insR_rise h), get_insR h]
      by_cases e : n = k
      · subst e; rw [nn, if_pos rfl, if_pos rfl]
      · rw [if_neg e, if_neg e]
end
/-- what stands at names, changed each -/
theorem get_map {α β : Type} (f : Str → α → β) (es : List (Str × α)) (k : Str) : get (es.map fun p => (p.1, f p.1 p.2)) k = (get es k).map (f k) := by
  induction es with
  | nil => rfl
  | cons p r ih =>
    obtain ⟨n, x⟩ := p
    rw [List.map_cons, get_cons, get_cons, ih]
    by_cases e : n = k
    · subst e; rw [if_pos rfl, if_pos rfl]; rfl
    · rw [if_neg e, if_neg e]
theorem map_rise {α β : Type} {f : Str → α → β} {es : List (Str × α)} (h : Rise es) : Rise (es.map fun p => (p.1, f p.1 p.2)) := by
  unfold Rise at *
  rw [List.pairwise_map]
  exact h
theorem map_uniq {α β : Type} {f : Str → α → β} {es : List (Str × α)} (h : Uniq es) : Uniq (es.map fun p => (p.1, f p.1 p.2)) := by
  unfold Uniq at *
  rw [List.map_map]
  exact h
end Lw
end
section
set_option Elab.async false
set_option linter.all false
set_option maxRecDepth 100000
set_option maxHeartbeats 4000000
/-! ML2: nodes, marks, what layers make, one behind another. -/
namespace Lw
open PySem PySem.Spec PyProof.Rows L2 PD
/-- a file, a link -/
inductive Lf
  | file (x : Str) (m : Nat)
  | link (x : Str)
  deriving DecidableEq
/-- a node (h: none) or a mark (h: whether it hides) -/
inductive Nd
  | gone
  | leaf (l : Lf)
  | fold (o : Nat) (es : List (Str × Nd)) (h : Option Bool)
abbrev Es := List (Str × Nd)
mutual
theorem Nd.ind {P : Nd → Prop} (hg : P .gone) (hl : ∀ l, P (.leaf l)) (hf : ∀ o es h, (∀ p ∈ es, P p.2) → P (.fold o es h)) : ∀ m, P m
  | .gone => hg
  | .leaf l => hl l
  | .fold o es h => hf o es h (Nd.indL hg hl hf es)
theorem Nd.indL {P : Nd → Prop} (hg : P .gone) (hl : ∀ l, P (.leaf l)) (hf : ∀ o es h, (∀ p ∈ es, P p.2) → P (.fold o es h)) : ∀ es : Es, ∀ p ∈ es, P p.2
  | [], _, h => nomatch h
  | (n, m) :: r, p, h => by
    rcases List.mem_cons.mp h with e | h
    · rw [e]; exact Nd.ind hg hl hf m
    · exact Nd.indL hg hl hf r p h
end
/-- names rise, all through -/
inductive Ris : Nd → Prop
  | gone : Ris .gone
  | leaf (l : Lf) : Ris (.leaf l)
  | fold (o : Nat) (es : Es) (h : Option Bool) : Rise es → (∀ p ∈ es, Ris p.2) → Ris (.fold o es h)
theorem Ris.rise {o : Nat} {es : Es} {h : Option Bool} (r : Ris (.fold o es h)) : Rise es := by cases r; assumption
theorem Ris.sub {o : Nat} {es : Es} {h : Option Bool} (r : Ris (.fold o es h)) : ∀ p ∈ es, Ris p.2 := by cases r; assumption
theorem Ris.at {o : Nat} {es : Es} {h : Option Bool} (r : Ris (.fold o es h)) {k : Str} {m : Nd} (e : get es k = some m) : Ris m := r.sub _ (get_mem e)
/-- a mark -/
inductive Lay : Nd → Prop
  | gone : Lay .gone
  | leaf (l : Lf) : Lay (.leaf l)
  | fold (o : Nat) (es : Es) (b : Bool) : Rise es → (∀ p ∈ es, Lay p.2) → Lay (.fold o es (some b))
/-- a node -/
inductive Tre : Nd → Prop
  | leaf (l : Lf) : Tre (.leaf l)
  | fold (o : Nat) (es : Es) : Rise es → (∀ p ∈ es, Tre p.2) → Tre (.fold o es none)
theorem Lay.ris {m : Nd} (h : Lay m) : Ris m := by
  induction h with
  | gone => exact .gone
  | leaf l => exact .leaf l
  | fold o es b r _ ih => exact .fold _ _ _ r ih
theorem Tre.ris {m : Nd} (h : Tre m) : Ris m := by
  induction h with
  | leaf l => exact .leaf l
  | fold o es r _ ih => exact .fold _ _ _ r ih
theorem Lay.sub {o : Nat} {es : Es} {h : Option Bool} (r : Lay (.fold o es h)) : ∀ p ∈ es, Lay p.2 := by cases r; assumption
theorem Lay.at {o : Nat} {es : Es} {h : Option Bool} (r : Lay (.fold o es h)) {k : Str} {m : Nd} (e : get es k = some m) : Lay m := r.sub _ (get_mem e)
theorem Tre.sub {o : Nat} {es : Es} {h : Option Bool} (r : Tre (.fold o es h)) : ∀ p ∈ es, Tre p.2 := by cases r; assumption
def RisO : Option Nd → Prop
  | none => True
  | some m => Ris m
/-- what of a node a folder mark goes on from -/
def below (h : Option Bool) : Option Nd → Es
  | some (.fold _ es _) => if h = some true then [] else es
  | _ => []
@[simp] theorem below_none (h : Option Bool) : below h none = [] := rfl
@[simp] theorem below_gone (h : Option Bool) : below h (some .gone) = [] := rfl
@[simp] theorem below_leaf (h : Option Bool) (l : Lf) : below h (some (.leaf l)) = [] := rfl
theorem below_true (x : Option Nd) : below (some true) x = [] := by
  cases x with
  | none => rfl
  | some m => cases m <;> rfl
theorem below_false (o : Nat) (es : Es) (h : Option Bool) : below (some false) (some (.fold o es h)) = es := rfl
theorem RisO.below {x : Option Nd} (r : RisO x) (h : Option Bool) : Rise (below h x) ∧ ∀ p ∈ below h x, Ris p.2 := by
  have e0 : Rise ([] : Es) ∧ ∀ p ∈ ([] : Es), Ris p.2 := ⟨List.Pairwise.nil, fun _ z => nomatch z⟩
  cases x with
  | none => exact e0
  | some m =>
    cases m with
    | fold o es h' =>
      show Rise (if h = some true then [] else es) ∧ ∀ p ∈ (if h = some true then [] else es), Ris p.2
      by_cases z : h = some true
      · rw [if_pos z]; exact e0
      · rw [if_neg z]
        have r : Ris (.fold o es h') := r
        exact ⟨r.rise, r.sub⟩
    | _ => exact e0
theorem RisO.get {es : Es} (r : ∀ p ∈ es, Ris p.2) (k : Str) : RisO (get es k) := by
  cases e : Lw.get es k with
  | none => exact True.intro
  | some m => exact r _ (get_mem e)
mutual
/-- what a mark makes of what stands there -/
def act : Nd → Option Nd → Option Nd
  | .gone, _ => none
  | .leaf l, _ => some (.leaf l)
  | .fold o es h, x => some (.fold o (over (below h x) (actL es (below h x))) none)
def actL : Es → Es → List (Str × Option Nd)
  | [], _ => []
  | (n, m) :: r, b => (n, act m (get b n)) :: actL r b
end
theorem actL_map (b : Es) : ∀ es : Es, actL es b = es.map fun p => (p.1, act p.2 (get b p.1))
  | [] => rfl
  | (n, m) :: r => by rw [actL, actL_map b r]; rfl
theorem actL_uniq {es b : Es} (h : Rise es) : Uniq (actL es b) := by
  rw [actL_map]
  exact map_uniq (f := fun n m => act m (get b n)) h.uniq
theorem get_actL {es b : Es} (k : Str) : get (actL es b) k = (get es k).map fun m => act m (get b k) := by
  rw [actL_map]
  exact get_map (fun n m => act m (get b n)) es k
theorem get_act {es b : Es} (he : Rise es) (hb : Rise b) (k : Str) : get (over b (actL es b)) k = match get es k with | none => get b k | some m => act m (get b k) := by
  rw [get_over (actL_uniq he) hb, get_actL]
  cases get es k <;> rfl
mutual
/-- one mark behind another -/
def join : Option Nd → Nd → Nd
  | x, .fold o es (some false) => match x with
    | none => .fold o es (some false)
    | some (.fold _ es' h') => .fold o (over es' (joinL es' es)) h'
    | some _ => .fold o es (some true)
  | _, .fold o es (some true) => .fold o es (some true)
  | _, .fold o es none => .fold o es none
  | _, .gone => .gone
  | _, .leaf l => .leaf l
def joinL : Es → Es → List (Str × Option Nd)
  | _, [] => []
  | b, (n, m) :: r => (n, some (join (get b n) m)) :: joinL b r
end
theorem joinL_map (b : Es) : ∀ es : Es, joinL b es = es.map fun p => (p.1, some (join (get b p.1) p.2))
  | [] => by rw [joinL]; rfl
  | (n, m) :: r => by rw [joinL, joinL_map b r]; rfl
theorem joinL_uniq {es b : Es} (h : Rise es) : Uniq (joinL b es) := by
  rw [joinL_map]
  exact map_uniq (f := fun n m => some (join (get b n) m)) h.uniq
theorem get_join {es b : Es} (he : Rise es) (hb : Rise b) (k : Str) : get (over b (joinL b es)) k = match get es k with | none => get b k | some m => some (join (get b k) m) := by
  rw [get_over (joinL_uniq he) hb, joinL_map, get_map (fun n m => some (join (get b n) m)) es k]
  cases get es k <;> rfl
@[simp] theorem join_none (u : Nd) : join none u = u := by
  cases u with
  | fold o es h => cases h with
    | none => rw [join]
    | some b => cases b <;> rw [join]
  | _ => rw [join]
@[simp] theorem join_gone (x : Option Nd) : join x .gone = .gone := by rw [join]
@[simp] theorem join_leaf (x : Option Nd) (l : Lf) : join x (.leaf l) = .leaf l := by rw [join]
@[simp] theorem join_hides (x : Option Nd) (o : Nat) (es : Es) : join x (.fold o es (some true)) = .fold o es (some true) := by rw [join]
@[simp] theorem join_node (x : Option Nd) (o : Nat) (es : Es) : join x (.fold o es none) = .fold o es none := by rw [join]
@[simp] theorem join_on_gone (o : Nat) (es : Es) : join (some .gone) (.fold o es (some false)) = .fold o es (some true) := by
  rw [join]
  exact fun _ _ _ z => nomatch z
@[simp] theorem join_on_leaf (l : Lf) (o : Nat) (es : Es) : join (some (.leaf l)) (.fold o es (some false)) = .fold o es (some true) := by
  rw [join]
  exact fun _ _ _ z => nomatch z
@[simp] theorem join_on_fold (o' : Nat) (es' : Es) (h' : Option Bool) (o : Nat) (es : Es) : join (some (.fold o' es' h')) (.fold o es (some false)) = .fold o (over es' (joinL es' es)) h' := by rw [join]
/-- what rises goes on rising -/
theorem act_ris : ∀ (u : Nd) (x : Option Nd), Ris u → RisO x → RisO (act u x) := by
  intro u
  induction u using Nd.ind with
  | hg => intro x _ _; rw [act]; exact True.intro
  | hl l => intro x _ _; rw [act]; exact .leaf l
  | hf o es h ih =>
    intro x r rx
    rw [act]
    obtain ⟨b1, b2⟩ := rx.below h
    refine .fold _ _ _ (over_rise b1) fun p hp => ?_
    have e := mem_get (over_rise b1).uniq (k := p.1) (m := p.2) hp
    rw [get_act r.rise b1] at e
    cases g : get es p.1 with
    | none => rw [g] at e; exact b2 _ (get_mem e)
    | some m =>
      rw [g] at e
      have e : act m (get (below h x) p.1) = some p.2 := e
      have := ih _ (get_mem g) (get (below h x) p.1) (r.at g) (RisO.get b2 _)
      rw [show act (p.1, m).2 (get (below h x) p.1) = some p.2 from e] at this
      exact this
theorem join_ris : ∀ (u : Nd) (x : Option Nd), Ris u → RisO x → Ris (join x u) := by
  intro u
  induction u using Nd.ind with
  | hg => intro x _ _; rw [join]; exact .gone
  | hl l => intro x _ _; rw [join]; exact .leaf l
  | hf o es h ih =>
    intro x r rx
    cases h with
    | none => rw [join]; exact r
    | some b =>
      cases b with
      | true => rw [join]; exact r
      | false =>
        cases x with
        | none => rw [join]; exact r
        | some l =>
          cases l with
          | gone => rw [join_on_gone]; exact .fold _ _ _ r.rise r.sub
          | leaf l => rw [join_on_leaf]; exact .fold _ _ _ r.rise r.sub
          | fold o' es' h' =>
            rw [join_on_fold]
            have rx : Ris (.fold o' es' h') := rx
            refine .fold _ _ _ (over_rise rx.rise) fun p hp => ?_
            have e := mem_get (over_rise rx.rise).uniq (k := p.1) (m := p.2) hp
            rw [get_join r.rise rx.rise] at e
            cases g : get es p.1 with
            | none => rw [g] at e; exact rx.sub _ (get_mem e)
            | some m =>
              rw [g] at e
              have e : some (join (get es' p.1) m) = some p.2 := e
              have := ih _ (get_mem g) (get es' p.1) (r.at g) (RisO.get rx.sub _)
              rw [← Option.some.inj e]
              exact this
/-- what a layer of two makes is what they make, one behind the other -/
theorem act_join : ∀ (u : Nd) (x y : Option Nd), Lay u → RisO x → RisO y → act (join x u) y = act u (match x with | none => y | some l => act l y) := by
  intro u
  induction u using Nd.ind with
  | hg => intro x y _ _ _; rw [join, act, act]
  | hl l => intro x y _ _ _; rw [join, act, act]
  | hf o es h ih =>
    intro x y r rx ry
    cases x with
    | none => rw [join_none]
    | some l =>
      cases h with
      | none => cases r
      | some b =>
        cases b with
        | true => rw [join_hides, act, act, below_true, below_true]
        | false =>
          cases l with
          | gone => rw [join_on_gone, act, act, below_true]; simp only [act, below_none]
          | leaf l => rw [join_on_leaf, act, act, below_true]; simp only [act, below_leaf]
          | fold o' es' h' =>
            rw [join_on_fold]
            have rx : Ris (.fold o' es' h') := rx
            simp only [act, below_false]
            obtain ⟨b1, b2⟩ := ry.below h'
            congr 2
            refine rise_ext (over_rise b1) (over_rise (over_rise b1)) fun k => ?_
            rw [get_act (over_rise rx.rise) b1, get_join r.ris.rise rx.rise, get_act r.ris.rise (over_rise b1), get_act rx.rise b1]
            cases g : get es k with
            | none => rfl
            | some m =>
              have q := ih _ (get_mem g) (get es' k) (get (below h' y) k) (r.at g) (RisO.get rx.sub _) (RisO.get b2 _)
              show act (join (get es' k) m) (get (below h' y) k) = _
              rw [q]
theorem join_assoc : ∀ (c : Nd) (x : Option Nd) (b : Nd), Ris c → RisO x → Ris b → join (some (join x b)) c = join x (join (some b) c) := by
  intro c
  induction c using Nd.ind with
  | hg => intro x b _ _ _; rw [join_gone, join_gone, join_gone]
  | hl l => intro x b _ _ _; rw [join_leaf, join_leaf, join_leaf]
  | hf o es h ih =>
    intro x b r rx rb
    cases h with
    | none => rw [join_node, join_node, join_node]
    | some h =>
      cases h with
      | true => rw [join_hides, join_hides, join_hides]
      | false =>
        cases b with
        | gone => rw [join_gone, join_on_gone, join_hides]
        | leaf l => rw [join_leaf, join_on_leaf, join_hides]
        | fold ob eb hb =>
          cases hb with
          | none => rw [join_node, join_on_fold, join_node]
          | some hb =>
            cases hb with
            | true => rw [join_hides, join_on_fold, join_hides]
            | false =>
              cases x with
              | none => rw [join_none, join_none]
              | some a =>
                cases a with
                | gone => rw [join_on_gone, join_on_fold, join_on_fold, join_on_gone]
                | leaf l => rw [join_on_leaf, join_on_fold, join_on_fold, join_on_leaf]
                | fold oa ea ha =>
                  rw [join_on_fold, join_on_fold, join_on_fold, join_on_fold]
                  have rx : Ris (.fold oa ea ha) := rx
                  congr 1
                  have r1 := over_rise (u := joinL ea eb) rx.rise
                  have r2 := over_rise (u := joinL eb es) rb.rise
                  refine rise_ext (over_rise r1) (over_rise rx.rise) fun k => ?_
                  rw [get_join r.rise r1, get_join r2 rx.rise, get_join r.rise rb.rise, get_join rb.rise rx.rise]
                  cases g : get es k with
                  | none => rfl
                  | some m =>
                    simp only
                    cases gb : get eb k with
                    | none => rw [join_none]
                    | some mb => rw [ih _ (get_mem g) (get ea k) mb (r.at g) (RisO.get rx.sub _) (rb.at gb)]
end Lw
end
section
set_option Elab.async false
set_option linter.all false
set_option maxRecDepth 100000
set_option maxHeartbeats 4000000
/-! ML3: nodes and marks as data, dicts of such. -/
namespace Lw
open PySem PySem.Spec PyProof.Rows L2 PD
variable [TB]
def lfD : Lf → PyData
  | .file x m => .tuple [.str "file", .str x, nD m]
  | .link x => .tuple [.str "link", .str x]
mutual
def ndD : Nd → PyData
  | .gone => .tuple [.str "gone"]
  | .leaf l => lfD l
  | .fold o es none => .tuple [.str "folder", nD o, .tuple (esD es)]
  | .fold o es (some h) => .tuple [.str "folder", nD o, .tuple (esD es), .bool h]
def esD : Es → List PyData
  | [] => []
  | (n, m) :: r => .tuple [.str n, ndD m] :: esD r
end
def entD (p : Str × Nd) : PyData := .tuple [.str p.1, ndD p.2]
theorem esD_map : ∀ es : Es, esD es = es.map entD
  | [] => by rw [esD]; rfl
  | (n, m) :: r => by rw [esD, esD_map r]; rfl
@[simp] theorem esD_nil : esD [] = [] := by rw [esD]
@[simp] theorem esD_len (es : Es) : (esD es).length = es.length := by rw [esD_map, List.length_map]
theorem ndD_node (o : Nat) (es : Es) : ndD (.fold o es none) = .tuple [.str "folder", nD o, .tuple (esD es)] := by rw [ndD]
theorem ndD_mark (o : Nat) (es : Es) (h : Bool) : ndD (.fold o es (some h)) = .tuple [.str "folder", nD o, .tuple (esD es), .bool h] := by rw [ndD]
theorem ndD_gone : ndD .gone = .tuple [.str "gone"] := by rw [ndD]
theorem ndD_leaf (l : Lf) : ndD (.leaf l) = lfD l := by rw [ndD]
/-- the kind that stands ahead -/
def kd : Nd → Str
  | .gone => "gone"
  | .leaf (.file _ _) => "file"
  | .leaf (.link _) => "link"
  | .fold _ _ _ => "folder"
theorem ndD_tup (m : Nd) : ∃ r, ndD m = .tuple (.str (kd m) :: r) := by
  cases m with
  | gone => exact ⟨_, ndD_gone⟩
  | leaf l => cases l <;> exact ⟨_, ndD_leaf _⟩
  | fold o es h => cases h with
    | none => exact ⟨_, ndD_node _ _⟩
    | some h => exact ⟨_, ndD_mark _ _ _⟩
theorem ix_zero (d : PyData) (r : List PyData) : ixD (.tuple (d :: r)) (.int 0) = some d := ixD_tuple (l := d :: r) (k := 0) (by simp)
theorem ix_one (d e : PyData) (r : List PyData) : ixD (.tuple (d :: e :: r)) (.int 1) = some e := ixD_tuple (l := d :: e :: r) (k := 1) (by simp)
theorem ix_two (d e f : PyData) (r : List PyData) : ixD (.tuple (d :: e :: f :: r)) (.int 2) = some f := ixD_tuple (l := d :: e :: f :: r) (k := 2) (by simp)
theorem ix_three (d e f g : PyData) (r : List PyData) : ixD (.tuple (d :: e :: f :: g :: r)) (.int 3) = some g := ixD_tuple (l := d :: e :: f :: g :: r) (k := 3) (by simp)
@[simp] theorem ix0_nd (m : Nd) : ixD (ndD m) (.int 0) = some (.str (kd m)) := by
  obtain ⟨r, e⟩ := ndD_tup m
  rw [e, ix_zero]
@[simp] theorem ix1_fold (o : Nat) (es : Es) (h : Option Bool) : ixD (ndD (.fold o es h)) (.int 1) = some (nD o) := by
  cases h <;> rw [ndD, ix_one]
@[simp] theorem ix2_fold (o : Nat) (es : Es) (h : Option Bool) : ixD (ndD (.fold o es h)) (.int 2) = some (.tuple (esD es)) := by
  cases h <;> rw [ndD, ix_two]
@[simp] theorem ix3_mark (o : Nat) (es : Es) (h : Bool) : ixD (ndD (.fold o es (some h))) (.int 3) = some (.bool h) := by
  rw [ndD, ix_three]
def isF : Nd → Bool
  | .fold _ _ _ => true
  | _ => false
def isG : Nd → Bool
  | .gone => true
  | _ => false
theorem str_ne {x y : Str} (h : x.cps ≠ y.cps) : x ≠ y := fun e => h (by rw [e])
theorem eqv_str (x y : Str) : PyData.eqv (.str x) (.str y) = decide (x = y) := by
  rw [PyData.eqv]
  by_cases h : x = y <;> simp [h]
@[simp] theorem eqD_str (x y : Str) : eqD (.str x) (.str y) = some (.bool (decide (x = y))) := by
  simp [eqD, okEq, eqv_str]
@[simp] theorem neD_str (x y : Str) : neD (.str x) (.str y) = some (.bool (!decide (x = y))) := by
  simp [neD, okEq, eqv_str]
@[simp] theorem kd_folder (m : Nd) : decide (kd m = ("folder" : String)) = isF m := by
  cases m with
  | gone => exact decide_eq_false (show ¬ (("gone" : String) : Str) = ("folder" : String) by decide)
  | leaf l => cases l with
    | file x m => exact decide_eq_false (show ¬ (("file" : String) : Str) = ("folder" : String) by decide)
    | link x => exact decide_eq_false (show ¬ (("link" : String) : Str) = ("folder" : String) by decide)
  | fold o es h => exact decide_eq_true rfl
@[simp] theorem kd_gone (m : Nd) : decide (kd m = ("gone" : String)) = isG m := by
  cases m with
  | gone => exact decide_eq_true rfl
  | leaf l => cases l with
    | file x m => exact decide_eq_false (show ¬ (("file" : String) : Str) = ("gone" : String) by decide)
    | link x => exact decide_eq_false (show ¬ (("link" : String) : Str) = ("gone" : String) by decide)
  | fold o es h => exact decide_eq_false (show ¬ (("folder" : String) : Str) = ("gone" : String) by decide)
@[simp] theorem kd_folder_iff (m : Nd) : kd m = ("folder" : String) ↔ isF m = true := by rw [← kd_folder, decide_eq_true_eq]
@[simp] theorem kd_gone_iff (m : Nd) : kd m = ("gone" : String) ↔ isG m = true := by rw [← kd_gone, decide_eq_true_eq]
@[simp] theorem isF_fold (o : Nat) (es : Es) (h : Option Bool) : isF (.fold o es h) = true := rfl
@[simp] theorem isF_gone : isF .gone = false := rfl
@[simp] theorem isF_leaf (l : Lf) : isF (.leaf l) = false := rfl
@[simp] theorem isG_fold (o : Nat) (es : Es) (h : Option Bool) : isG (.fold o es h) = false := rfl
@[simp] theorem isG_gone : isG .gone = true := rfl
@[simp] theorem isG_leaf (l : Lf) : isG (.leaf l) = false := rfl
/-! ### dicts -/
def dicE (L : Es) : List (PyData × PyData) := L.map fun p => (.str p.1, ndD p.2)
@[simp] theorem dicE_nil : dicE [] = [] := rfl
theorem dicE_len (L : Es) : (dicE L).length = L.length := by unfold dicE; rw [List.length_map]
theorem same_str (x y : Str) : sameK (.str x) (.str y) ↔ y = x := by
  have h := @same_k _ (.inr x) (.inr y)
  have h : sameK (.str x) (.str y) ↔ (Sum.inr y : Key) = Sum.inr x := h
  rw [h]
  exact ⟨fun e => by injection e, fun e => by rw [e]⟩
@[simp] theorem fits_str (x : Str) : keyFits false (.str x) = true := rfl
@[simp] theorem look_dicE (L : Es) (k : Str) : lookD (.str k) (dicE L) = (get L k).map ndD := by
  induction L with
  | nil => rfl
  | cons p L ih =>
    obtain ⟨n, m⟩ := p
    show (if sameK (.str k) (.str n) then some (ndD m) else lookD (.str k) (dicE L)) = _
    rw [ih, get_cons]
    by_cases h : n = k
    · rw [if_pos ((same_str k n).mpr h), if_pos h]; rfl
    · rw [if_neg fun z => h ((same_str k n).mp z), if_neg h]
theorem any_dicE (L : Es) (k : Str) : ((dicE L).any fun q => decide (sameK (.str k) q.1)) = (get L k).isSome := by
  induction L with
  | nil => rfl
  | cons p L ih =>
    obtain ⟨n, m⟩ := p
    show (decide (sameK (.str k) (.str n)) || (dicE L).any fun q => decide (sameK (.str k) q.1)) = _
    rw [ih, get_cons]
    by_cases h : n = k
    · rw [decide_eq_true ((same_str k n).mpr h), if_pos h]; rfl
    · rw [decide_eq_false fun z => h ((same_str k n).mp z), if_neg h]; rfl
@[simp] theorem ins_dicE (L : Es) (k : Str) (m : Nd) : insD (.str k) (ndD m) (dicE L) = dicE (put k m L) := by
  unfold insD put
  rw [any_dicE]
  by_cases h : (get L k).isSome = true
  · rw [if_pos h, if_pos h]
    unfold dicE
    rw [List.map_map, List.map_map]
    refine List.map_congr_left fun p _ => ?_
    show (if sameK (.str k) (.str p.1) then ((.str p.1, ndD m) : PyData × PyData) else (.str p.1, ndD p.2)) = _
    by_cases e : p.1 = k
    · rw [if_pos ((same_str k p.1).mpr e)]
      show _ = (fun p : Str × Nd => ((.str p.1, ndD p.2) : PyData × PyData)) (if p.1 = k then (p.1, m) else p)
      rw [if_pos e]
    · rw [if_neg fun z => e ((same_str k p.1).mp z)]
      show _ = (fun p : Str × Nd => ((.str p.1, ndD p.2) : PyData × PyData)) (if p.1 = k then (p.1, m) else p)
      rw [if_neg e]
  · rw [if_neg h, if_neg h]
    unfold dicE
    rw [List.map_append]; rfl
@[simp] theorem drop_dicE (L : Es) (k : Str) : dropD (.str k) (dicE L) = dicE (drop k L) := by
  unfold dropD drop dicE
  rw [List.filter_map]
  congr 1
  refine List.filter_congr fun p _ => ?_
  show decide (¬ sameK (.str k) (.str p.1)) = decide (p.1 ≠ k)
  exact decide_eq_decide.mpr (not_congr (same_str k p.1))
@[simp] theorem pairs_esD : ∀ es : Es, pairsAD false (esD es) = some (dicE es)
  | [] => by rw [esD]; rfl
  | (n, m) :: r => by
    rw [esD]
    show (if keyFits false (.str n) = true then (pairsAD false (esD r)).map ((.str n, ndD m) :: ·) else none) = _
    rw [pairs_esD r]; rfl
@[simp] theorem dictAD_esD (es : Es) : dictAD false [.tuple (esD es)] = some (dicE es) := pairs_esD es
theorem put_new {k : Str} {m : Nd} {L : Es} (h : get L k = none) : put k m L = L ++ [(k, m)] := by
  unfold put
  rw [h]; rfl
theorem merge_uniq {es : Es} (u : Uniq es) : mergeD [] (dicE es) = dicE es := by
  have go : ∀ (es L : Es), Uniq (L ++ es) → mergeD (dicE L) (dicE es) = dicE (L ++ es) := fun es => by
    induction es with
    | nil => intro L _; rw [List.append_nil]; rfl
    | cons p r ih =>
      intro L h
      obtain ⟨n, m⟩ := p
      show mergeD (insD (.str n) (ndD m) (dicE L)) (dicE r) = _
      have hn : get L n = none := get_none.mpr fun z => by
        unfold Uniq at h
        rw [List.map_append, List.nodup_append] at h
        exact h.2.2 n z n (by simp) rfl
      rw [ins_dicE, put_new hn, ih _ (by rw [List.append_assoc]; exact h), List.append_assoc]; rfl
  exact go es [] u
@[simp] theorem items_dicE (L : Es) : (dicE L).map (fun q => PyData.tuple [q.1, q.2]) = esD L := by
  unfold dicE
  rw [List.map_map, esD_map]; rfl
theorem keys_dicE (L : Es) : (dicE L).map (·.1) = L.map fun p => .str p.1 := by
  unfold dicE
  rw [List.map_map]; rfl
/-! ### rows by their names -/
theorem lt_str (x y : Str) : PySem.W.dataLt (.str x) (.str y) = decide (slt x y) := by
  rw [PySem.W.dataLt_str]; rfl
end Lw
end
section
set_option Elab.async false
set_option linter.all false
set_option maxRecDepth 100000
set_option maxHeartbeats 4000000
/-! ML4: rows sorted by their names. -/
namespace Lw
open PySem PySem.Spec PyProof.Rows L2 PD
section
variable {α : Type}
def leE (p q : Str × α) : Bool := !decide (slt q.1 p.1)
def srtE (L : List (Str × α)) : List (Str × α) := L.mergeSort leE
theorem perm_get {a b : List (Str × α)} (h : a.Perm b) (u : Uniq a) (k : Str) : get a k = get b k := by
  have ub : Uniq b := (h.map (fun x : Str × α => x.1)).nodup_iff.mp u
  cases e : get a k with
  | none =>
    cases e2 : get b k with
    | none => rfl
    | some m =>
      have := mem_get u (h.mem_iff.mpr (get_mem e2))
      rw [e] at this; cases this
  | some m => rw [mem_get ub (h.mem_iff.mp (get_mem e))]
theorem srtE_rise {L : List (Str × α)} (u : Uniq L) : Rise (srtE L) := by
  have p : (srtE L).Perm L := List.mergeSort_perm _ _
  have uz : Uniq (srtE L) := (p.map (fun x : Str × α => x.1)).nodup_iff.mpr u
  have s := List.pairwise_mergeSort (le := (leE : Str × α → Str × α → Bool)) (fun a b c h1 h2 => by
    unfold leE at *
    simp only [Bool.not_eq_true', decide_eq_false_iff_not] at *
    intro z
    rcases slt_tri b.1 a.1 with y | y | y
    · exact h1 y
    · rw [y] at h2; exact h2 z
    · exact h2 (slt_trans z y)) (fun a b => by
    unfold leE
    rcases slt_tri b.1 a.1 with y | y | y
    · simp [y, slt_asymm y]
    · rw [y]; simp [slt_irrefl]
    · simp [y, slt_asymm y]) L
  have uz' : (srtE L).Pairwise fun a b => a.1 ≠ b.1 := List.pairwise_map.mp uz
  exact (s.and uz').imp fun {a b} h => by
    obtain ⟨h1, h2⟩ := h
    unfold leE at h1
    simp only [Bool.not_eq_true', decide_eq_false_iff_not] at h1
    rcases slt_tri b.1 a.1 with y | y | y
    · exact absurd y h1
    · exact absurd y.symm h2
    · exact y
theorem srtE_eq {L R : List (Str × α)} (u : Uniq L) (r : Rise R) (h : ∀ k, get L k = get R k) : srtE L = R :=
  rise_ext (srtE_rise u) r fun k => by
    have p : (srtE L).Perm L := List.mergeSort_perm _ _
    rw [← perm_get p.symm u]
    exact h k
end
variable [TB]
theorem le_ent (p q : Str × Nd) : PySem.W.dataLe false keyOf0 (entD p) (entD q) = leE p q := by
  show (!PySem.W.dataLt (.str q.1) (.str p.1)) = _
  rw [lt_str]; rfl
theorem sortK_esD {L R : Es} (u : Uniq L) (r : Rise R) (h : ∀ k, get L k = get R k) : sortK (esD L) = esD R := by
  rw [esD_map, esD_map, ← srtE_eq u r h]
  exact (List.map_mergeSort fun a _ b _ => (le_ent a b).symm).symm
theorem sortK_srt {L : Es} (u : Uniq L) : sortK (esD L) = esD (srtE L) := sortK_esD u (srtE_rise u) fun k => by
  have p : (srtE L).Perm L := List.mergeSort_perm _ _
  exact perm_get p.symm u k
@[simp] theorem plain_str' (x : Str) : (PyData.str x).plain = true := by simp [PyData.plain]
theorem alike_str (x y : Str) : PySem.W.alike (.str x) (.str y) = true := by simp [PySem.W.alike]
@[simp] theorem okSortK_esD (L : Es) : okSortK (esD L) = true := by
  have k0 : (esD L).map keyOf0 = L.map fun p => .str p.1 := by rw [esD_map, List.map_map]; rfl
  unfold okSortK
  rw [k0]
  have h1 : (esD L).all fitK0 = true := by
    rw [esD_map, List.all_map]
    refine List.all_eq_true.mpr fun p _ => ?_
    show (noLst (.str p.1) && (PyData.str p.1).plain && decide ((PyData.str p.1).depth ≤ 60)) = true
    simp [noLst]
  have h2 : ((L.map fun p => PyData.str p.1).all fun x => (L.map fun p => PyData.str p.1).all fun y => PySem.W.alike x y) = true := List.all_eq_true.mpr fun a ha => List.all_eq_true.mpr fun b hb => by
    obtain ⟨p, _, rfl⟩ := List.mem_map.mp ha
    obtain ⟨q, _, rfl⟩ := List.mem_map.mp hb
    exact alike_str _ _
  have h3 : (L.map fun p => PyData.str p.1).all nonTup = true := List.all_eq_true.mpr fun a ha => by
    obtain ⟨p, _, rfl⟩ := List.mem_map.mp ha
    rfl
  rw [h1, h2, h3]
  simp
theorem okSort_strs (l : List Str) : okSort (l.map PyData.str) = true := by
  have h2 : (l.map PyData.str).all (fun x => (l.map PyData.str).all fun y => PySem.W.alike x y) = true := List.all_eq_true.mpr fun a ha => List.all_eq_true.mpr fun b hb => by
    obtain ⟨p, _, rfl⟩ := List.mem_map.mp ha
    obtain ⟨q, _, rfl⟩ := List.mem_map.mp hb
    exact alike_str _ _
  have h3 : (l.map PyData.str).all nonTup = true := List.all_eq_true.mpr fun a ha => by
    obtain ⟨p, _, rfl⟩ := List.mem_map.mp ha
    rfl
  have h4 : (l.map PyData.str).all (fun d => decide (d.depth ≤ 60)) = true := List.all_eq_true.mpr fun a ha => by
    obtain ⟨p, _, rfl⟩ := List.mem_map.mp ha
    simp
  have h5 : PyData.plainAll (l.map PyData.str) = true := plainAll_of fun d hd => by
    obtain ⟨p, _, rfl⟩ := List.mem_map.mp hd
    simp
  unfold okSort
  rw [h2, h3, h4, h5]
  simp
theorem sortD_names (L : Es) : sortD (L.map fun p => PyData.str p.1) = (srtE L).map fun p => PyData.str p.1 :=
  (List.map_mergeSort fun a _ b _ => by
    show leE a b = !PySem.W.dataLt (.str b.1) (.str a.1)
    rw [lt_str]; rfl).symm
@[simp] theorem keysSD_dicE (L : Es) : keysSD [dicD false (dicE L)] = some ((srtE L).map fun p => PyData.str p.1) := by
  rw [keysSD_dic, keys_dicE]
  have : okSort (L.map fun p => PyData.str p.1) = true := by
    have := okSort_strs (L.map (·.1))
    rwa [List.map_map] at this
  rw [if_pos this, sortD_names]
end Lw
end
section
set_option Elab.async false
set_option linter.all false
set_option maxRecDepth 100000
set_option maxHeartbeats 4000000
/-! ML5: what is drawn fits: few, and not deep. -/
namespace Lw
open PySem PySem.Spec PyProof.Rows L2 PD
def isName (x : Str) : Bool := x == "a" || x == "b" || x == "c" || x == "d"
def names4 : List Str := ["a", "b", "c", "d"]
theorem name_mem {x : Str} (h : isName x = true) : x ∈ names4 := by
  unfold isName at h
  simp at h
  unfold names4
  simp
  rcases h with ((h | h) | h) | h
  · exact .inl h
  · exact .inr (.inl h)
  · exact .inr (.inr (.inl h))
  · exact .inr (.inr (.inr h))
def isTxt (x : Str) : Bool := x == "" || x == "x" || x == "yy" || x == "a" || x == "b/c" || x == "z"
def LfOk : Lf → Prop
  | .file x m => isTxt x = true ∧ m ≤ 9
  | .link x => isTxt x = true ∧ x ≠ ""
/-- b: marks, else nodes -/
inductive Fit : Bool → Nat → Nd → Prop
  | gone (k : Nat) : Fit true k .gone
  | leaf (b : Bool) (k : Nat) (l : Lf) : LfOk l → Fit b k (.leaf l)
  | mark (k o : Nat) (es : Es) (h : Bool) : o ≤ 9 → Rise es → (∀ p ∈ es, isName p.1 = true) → (∀ p ∈ es, Fit true k p.2) → Fit true (k + 1) (.fold o es (some h))
  | node (k o : Nat) (es : Es) : o ≤ 9 → Rise es → (∀ p ∈ es, isName p.1 = true) → (∀ p ∈ es, Fit false k p.2) → Fit false (k + 1) (.fold o es none)
section
variable {b : Bool} {k : Nat} {m : Nd}
theorem Fit.ris (h : Fit b k m) : Ris m := by
  induction h with
  | gone => exact .gone
  | leaf b k l => exact .leaf l
  | mark k o es h _ r _ _ ih => exact .fold _ _ _ r ih
  | node k o es _ r _ _ ih => exact .fold _ _ _ r ih
theorem Fit.lay (h : Fit true k m) : Lay m := by
  generalize e : true = b at h
  induction h with
  | gone => exact .gone
  | leaf b k l => exact .leaf l
  | mark k o es h _ r _ _ ih => exact .fold _ _ _ r fun p hp => ih p hp rfl
  | node k o es _ r _ _ ih => cases e
theorem Fit.le {k' : Nat} (h : Fit b k m) (l : k ≤ k') : Fit b k' m := by
  induction h generalizing k' with
  | gone => exact .gone _
  | leaf b k l h => exact .leaf _ _ _ h
  | mark k o es h o9 r n _ ih =>
    obtain ⟨j, rfl⟩ : ∃ j, k' = j + 1 := ⟨k' - 1, by omega⟩
    exact .mark _ _ _ _ o9 r n fun p hp => ih p hp (by omega)
  | node k o es o9 r n _ ih =>
    obtain ⟨j, rfl⟩ : ∃ j, k' = j + 1 := ⟨k' - 1, by omega⟩
    exact .node _ _ _ o9 r n fun p hp => ih p hp (by omega)
def FitO (b : Bool) (k : Nat) : Option Nd → Prop
  | none => True
  | some m => Fit b k m
theorem FitO.ris {x : Option Nd} (h : FitO b k x) : RisO x := by
  cases x with
  | none => exact True.intro
  | some m => exact Fit.ris h
theorem FitO.get {es : Es} (r : ∀ p ∈ es, Fit b k p.2) (n : Str) : FitO b k (get es n) := by
  cases e : Lw.get es n with
  | none => exact True.intro
  | some m => exact r _ (get_mem e)
theorem FitO.belo {x : Option Nd} (r : FitO b (k + 1) x) (h : Option Bool) : (∀ p ∈ below h x, isName p.1 = true) ∧ ∀ p ∈ below h x, Fit b k p.2 := by
  have e0 : (∀ p ∈ ([] : Es), isName p.1 = true) ∧ ∀ p ∈ ([] : Es), Fit b k p.2 := ⟨(fun _ z => nomatch z), (fun _ z => nomatch z)⟩
  cases x with
  | none => exact e0
  | some m =>
    cases m with
    | fold o es h' =>
      show (∀ p ∈ (if h = some true then [] else es), isName p.1 = true) ∧ ∀ p ∈ (if h = some true then [] else es), Fit b k p.2
      by_cases z : h = some true
      · rw [if_pos z]; exact e0
      · rw [if_neg z]
        have r : Fit b (k + 1) (.fold o es h') := r
        cases r with
        | mark _ _ _ _ _ _ h1 h2 => exact ⟨h1, h2⟩
        | node _ _ _ _ _ h1 h2 => exact ⟨h1, h2⟩
    | _ => exact e0
theorem act_fit : ∀ (u : Nd) (k : Nat) (x : Option Nd), Fit true k u → FitO false k x → FitO false k (act u x) := by
  intro u
  induction u using Nd.ind with
  | hg => intro k x _ _; rw [act]; exact True.intro
  | hl l => intro k x h _; rw [act]; cases h with | leaf _ _ _ h => exact .leaf _ _ _ h
  | hf o es h ih =>
    intro k x r rx
    rw [act]
    cases r with
    | mark k _ _ h o9 rs nm r =>
      obtain ⟨b1, b2⟩ := rx.ris.below (some h)
      obtain ⟨c1, c2⟩ := FitO.belo rx (some h)
      have key : ∀ p ∈ over (below (some h) x) (actL es (below (some h) x)), isName p.1 = true ∧ Fit false k p.2 := fun p hp => by
        have e := mem_get (over_rise b1).uniq (k := p.1) (m := p.2) hp
        rw [get_act rs b1] at e
        cases g : get es p.1 with
        | none =>
          rw [g] at e
          exact ⟨c1 _ (get_mem e), c2 _ (get_mem e)⟩
        | some m =>
          rw [g] at e
          have e : act m (get (below (some h) x) p.1) = some p.2 := e
          have := ih _ (get_mem g) k (get (below (some h) x) p.1) (r _ (get_mem g)) (FitO.get c2 _)
          rw [show act (p.1, m).2 (get (below (some h) x) p.1) = some p.2 from e] at this
          exact ⟨nm (p.1, m) (get_mem g), this⟩
      exact .node _ _ _ o9 (over_rise b1) (fun p hp => (key p hp).1) fun p hp => (key p hp).2
theorem join_fit : ∀ (u : Nd) (k : Nat) (x : Option Nd), Fit true k u → FitO true k x → Fit true k (join x u) := by
  intro u
  induction u using Nd.ind with
  | hg => intro k x h _; rw [join_gone]; exact h
  | hl l => intro k x h _; rw [join_leaf]; exact h
  | hf o es h ih =>
    intro k x r rx
    cases h with
    | none => cases r
    | some h =>
      cases h with
      | true => rw [join_hides]; exact r
      | false =>
        cases x with
        | none => rw [join_none]; exact r
        | some l =>
          cases l with
          | gone =>
            rw [join_on_gone]
            cases r with | mark k _ _ h o9 rs nm r => exact .mark _ _ _ _ o9 rs nm r
          | leaf l =>
            rw [join_on_leaf]
            cases r with | mark k _ _ h o9 rs nm r => exact .mark _ _ _ _ o9 rs nm r
          | fold o' es' h' =>
            rw [join_on_fold]
            have rx : Fit true k (.fold o' es' h') := rx
            cases rx with
            | mark k _ _ h' o9' rs' nm' r' =>
              cases r with
              | mark _ _ _ h o9 rs nm r =>
                have key : ∀ p ∈ over es' (joinL es' es), isName p.1 = true ∧ Fit true k p.2 := fun p hp => by
                  have e := mem_get (over_rise rs').uniq (k := p.1) (m := p.2) hp
                  rw [get_join rs rs'] at e
                  cases g : get es p.1 with
                  | none =>
                    rw [g] at e
                    exact ⟨nm' _ (get_mem e), r' _ (get_mem e)⟩
                  | some m =>
                    rw [g] at e
                    have e : some (join (get es' p.1) m) = some p.2 := e
                    have := ih _ (get_mem g) k (get es' p.1) (r _ (get_mem g)) (FitO.get r' _)
                    rw [← Option.some.inj e]
                    exact ⟨nm (p.1, m) (get_mem g), this⟩
                exact .mark _ _ _ _ o9 (over_rise rs') (fun p hp => (key p hp).1) fun p hp => (key p hp).2
end
/-! ### how many -/
mutual
def cnt : Nd → Nat
  | .gone => 1
  | .leaf _ => 1
  | .fold _ es _ => cntL es + 1
def cntL : Es → Nat
  | [] => 0
  | (_, m) :: r => cnt m + cntL r
end
def bnd : Nat → Nat
  | 0 => 1
  | k + 1 => 4 * bnd k + 1
theorem bnd_pos (k : Nat) : 1 ≤ bnd k := by cases k <;> simp [bnd]
theorem cntL_le {n : Nat} : ∀ {es : Es}, (∀ p ∈ es, cnt p.2 ≤ n) → cntL es ≤ es.length * n
  | [], _ => by rw [cntL]; simp
  | (a, m) :: r, h => by
    rw [cntL, List.length_cons, Nat.succ_mul]
    have h1 := h (a, m) List.mem_cons_self
    have h2 := cntL_le (n := n) (es := r) fun p hp => h p (List.mem_cons_of_mem _ hp)
    have h1 : cnt m ≤ n := h1
    omega
theorem few4 {es : Es} (r : Rise es) (h : ∀ p ∈ es, isName p.1 = true) : es.length ≤ 4 := by
  have u : (es.map fun p : Str × Nd => p.1).Nodup := r.uniq
  have s : (es.map fun p : Str × Nd => p.1) ⊆ names4 := fun x hx => by
    obtain ⟨p, hp, rfl⟩ := List.mem_map.mp hx
    exact name_mem (h p hp)
  have := u.length_le_of_subset s
  rw [List.length_map] at this
  exact this
theorem Fit.cnt_le {b : Bool} {k : Nat} {m : Nd} (h : Fit b k m) : cnt m ≤ bnd k := by
  induction h with
  | gone => rw [cnt]; exact bnd_pos _
  | leaf => rw [cnt]; exact bnd_pos _
  | mark k o es h _ r n _ ih =>
    have h1 := few4 r n
    have h2 := cntL_le ih
    have h3 := Nat.mul_le_mul_right (bnd k) h1
    rw [cnt, bnd]; omega
  | node k o es _ r n _ ih =>
    have h1 := few4 r n
    have h2 := cntL_le ih
    have h3 := Nat.mul_le_mul_right (bnd k) h1
    rw [cnt, bnd]; omega
variable [TB]
/-! ### as data -/
mutual
theorem plain_ndD : ∀ m : Nd, (ndD m).plain = true
  | .gone => by rw [ndD]; simp
  | .leaf (.file _ _) => by rw [ndD, lfD]; simp
  | .leaf (.link _) => by rw [ndD, lfD]; simp
  | .fold o es none => by rw [ndD]; simp [plain_esD es]
  | .fold o es (some h) => by rw [ndD]; simp [plain_esD es]
theorem plain_esD : ∀ es : Es, PyData.plainAll (esD es) = true
  | [] => by rw [esD]; simp
  | (n, m) :: r => by rw [esD]; simp [plain_ndD m, plain_esD r]
end
theorem depth_esD {n : Nat} {es : Es} (h : ∀ p ∈ es, (ndD p.2).depth ≤ n) : PyData.depthAll (esD es) ≤ n + 1 := by
  rw [esD_map]
  refine depthAll_le fun d hd => ?_
  obtain ⟨p, hp, rfl⟩ := List.mem_map.mp hd
  have := h p hp
  unfold entD
  simp
  omega
theorem Fit.depth {b : Bool} {k : Nat} {m : Nd} (h : Fit b k m) : (ndD m).depth ≤ 3 * k + 1 := by
  induction h with
  | gone => rw [ndD]; simp
  | leaf b k l => cases l <;> rw [ndD, lfD] <;> simp
  | mark k o es h _ r n _ ih =>
    have := depth_esD ih
    rw [ndD]; simp; omega
  | node k o es _ r n _ ih =>
    have := depth_esD ih
    rw [ndD]; simp; omega
theorem Fit.okEq {b b' : Bool} {k k' : Nat} {m m' : Nd} (h : Fit b k m) (h' : Fit b' k' m') (le : k ≤ 19) : okEq (ndD m) (ndD m') = true := by
  have := h.depth
  unfold PD.okEq
  rw [plain_ndD, plain_ndD]
  simp
  omega
theorem Fit.eq_self {b : Bool} {k : Nat} {m : Nd} (h : Fit b k m) (le : k ≤ 19) : eqD (ndD m) (ndD m) = some (.bool true) := by
  unfold eqD
  rw [if_pos (h.okEq h le), PySem.SeqAt.eqv_refl_plain _ (plain_ndD m)]
theorem Fit.ne_self {b : Bool} {k : Nat} {m : Nd} (h : Fit b k m) (le : k ≤ 19) : neD (ndD m) (ndD m) = some (.bool false) := by
  unfold neD
  rw [if_pos (h.okEq h le), PySem.SeqAt.eqv_refl_plain _ (plain_ndD m)]; rfl
end Lw
end
section
set_option Elab.async false
set_option linter.all false
set_option maxRecDepth 100000
set_option maxHeartbeats 4000000
/-! ML6: what is drawn has a repr. -/
namespace Lw
open PySem PySem.Spec PyProof.Rows L2 PD
variable [TB]
mutual
theorem std_ndD : ∀ m : Nd, std (ndD m) = ndD m
  | .gone => by rw [ndD, std, stdAll, std, stdAll]
  | .leaf (.file _ _) => by rw [ndD, lfD, std, stdAll, std, stdAll, std, stdAll, nD, std, stdAll]
  | .leaf (.link _) => by rw [ndD, lfD, std, stdAll, std, stdAll, std, stdAll]
  | .fold o es none => by rw [ndD, std, stdAll, std, stdAll, nD, std, stdAll, std, std_esD es, stdAll]
  | .fold o es (some h) => by rw [ndD, std, stdAll, std, stdAll, nD, std, stdAll, std, std_esD es, stdAll, std, stdAll]
theorem std_esD : ∀ es : Es, stdAll (esD es) = esD es
  | [] => by rw [esD, stdAll]
  | (n, m) :: r => by rw [esD, stdAll, std, stdAll, std, stdAll, std_ndD m, stdAll, std_esD r]
end
mutual
theorem noDict_ndD : ∀ m : Nd, (ndD m).hasDict = false
  | .gone => by rw [ndD]; simp [PyData.hasDict, PyData.hasDictAll]
  | .leaf (.file _ _) => by rw [ndD, lfD, nD]; simp [PyData.hasDict, PyData.hasDictAll]
  | .leaf (.link _) => by rw [ndD, lfD]; simp [PyData.hasDict, PyData.hasDictAll]
  | .fold o es none => by rw [ndD, nD]; simp [PyData.hasDict, PyData.hasDictAll, noDict_esD es]
  | .fold o es (some h) => by rw [ndD, nD]; simp [PyData.hasDict, PyData.hasDictAll, noDict_esD es]
theorem noDict_esD : ∀ es : Es, PyData.hasDictAll (esD es) = false
  | [] => by rw [esD]; simp [PyData.hasDictAll]
  | (n, m) :: r => by rw [esD]; simp [PyData.hasDict, PyData.hasDictAll, noDict_ndD m, noDict_esD r]
end
theorem flat_int {n : Nat} (h : n ≤ 9) : FlatS (nD n) := .int _ (by simp; omega)
theorem name_flat {x : Str} (h : isName x = true) : FlatS (.str x) := by
  have := name_mem h
  unfold names4 at this
  simp at this
  rcases this with rfl | rfl | rfl | rfl <;> exact .str _ (by decide +kernel)
theorem txt_flat {x : Str} (h : isTxt x = true) : FlatS (.str x) := by
  unfold isTxt at h
  simp at h
  rcases h with ((((h | h) | h) | h) | h) | h <;> (rw [h]; exact .str _ (by decide +kernel))
theorem file_flat : FlatS (.str "file") := .str _ (by decide +kernel)
theorem link_flat : FlatS (.str "link") := .str _ (by decide +kernel)
theorem folder_flat : FlatS (.str "folder") := .str _ (by decide +kernel)
theorem gone_flat : FlatS (.str "gone") := .str _ (by decide +kernel)
theorem show_flat {ds : List PyData} (h : ∀ d ∈ ds, FlatS d) : (PyData.tuple ds).showable = true ∧ (PyData.tuple ds).shown.length ≤ 42 * ds.length + 3 := by
  obtain ⟨_, a2, _, _, a5⟩ := flat_all h
  refine ⟨by rw [PyData.showable]; exact a2, ?_⟩
  rw [PyData.shown]
  have := tuple_len (PyData.shownAll ds)
  omega
theorem show_leaf {l : Lf} (h : LfOk l) : (lfD l).showable = true ∧ (lfD l).shown.length ≤ 150 := by
  cases l with
  | file x m =>
    obtain ⟨h1, h2⟩ := h
    obtain ⟨a, b⟩ := show_flat (ds := [.str "file", .str x, nD m]) fun d hd => by
      rcases List.mem_cons.mp hd with e | hd
      · rw [e]; exact file_flat
      · rcases List.mem_cons.mp hd with e | hd
        · rw [e]; exact txt_flat h1
        · rw [List.mem_singleton.mp hd]; exact flat_int h2
    exact ⟨a, Nat.le_trans b (by simp)⟩
  | link x =>
    obtain ⟨h1, h2⟩ := h
    obtain ⟨a, b⟩ := show_flat (ds := [.str "link", .str x]) fun d hd => by
      rcases List.mem_cons.mp hd with e | hd
      · rw [e]; exact link_flat
      · rw [List.mem_singleton.mp hd]; exact txt_flat h1
    exact ⟨a, Nat.le_trans b (by simp)⟩
theorem show_es : ∀ {es : Es}, (∀ p ∈ es, isName p.1 = true) → (∀ p ∈ es, (ndD p.2).showable = true ∧ (ndD p.2).shown.length + 50 ≤ 200 * cnt p.2) → PyData.showableAll (esD es) = true ∧ piled (PyData.shownAll (esD es)) ≤ 200 * cntL es
  | [], _, _ => by rw [esD]; exact ⟨by rw [PyData.showableAll], by rw [PyData.shownAll, cntL]; exact Nat.le_refl _⟩
  | (n, m) :: r, hn, h => by
    obtain ⟨i1, i2⟩ := show_es (es := r) (fun p hp => hn p (List.mem_cons_of_mem _ hp)) fun p hp => h p (List.mem_cons_of_mem _ hp)
    obtain ⟨m1, m2⟩ := h (n, m) List.mem_cons_self
    obtain ⟨n1, _, _, n4⟩ := (name_flat (hn (n, m) List.mem_cons_self)).show
    have m1 : (ndD m).showable = true := m1
    have m2 : (ndD m).shown.length + 50 ≤ 200 * cnt m := m2
    have n1 : (PyData.str n).showable = true := n1
    have n4 : (PyData.str n).shown.length ≤ 40 := n4
    rw [esD, PyData.showableAll, PyData.shownAll, piled_cons, cntL]
    refine ⟨by simp [PyData.showable, PyData.showableAll, m1, i1], ?_⟩
    rw [PyData.shown, PyData.shownAll, PyData.shownAll, PyData.shownAll]
    have z := tuple_len [(PyData.str n).shown, (ndD m).shown]
    rw [piled_cons, piled_cons] at z
    have p0 : piled [] = 0 := rfl
    rw [p0] at z
    omega
theorem Fit.show {b : Bool} {k : Nat} {m : Nd} (h : Fit b k m) : (ndD m).showable = true ∧ (ndD m).shown.length + 50 ≤ 200 * cnt m := by
  induction h with
  | gone =>
    obtain ⟨a, b⟩ := show_flat (ds := [.str "gone"]) fun d hd => by rw [List.mem_singleton.mp hd]; exact gone_flat
    rw [ndD, cnt]
    refine ⟨a, ?_⟩
    simp at b ⊢
    omega
  | leaf b k l h =>
    obtain ⟨a, b⟩ := show_leaf h
    rw [ndD, cnt]
    exact ⟨a, by omega⟩
  | mark k o es h o9 r n _ ih =>
    obtain ⟨i1, i2⟩ := show_es n ih
    obtain ⟨f1, _, _, f4⟩ := folder_flat.show
    obtain ⟨o1, _, _, o4⟩ := (flat_int o9).show
    obtain ⟨h1, _, _, h4⟩ := (FlatS.bool h).show
    rw [ndD, cnt]
    refine ⟨by simp [PyData.showable, PyData.showableAll, i1, o1], ?_⟩
    rw [PyData.shown, PyData.shownAll, PyData.shownAll, PyData.shownAll, PyData.shownAll, PyData.shownAll]
    have z := tuple_len [(PyData.str "folder").shown, (nD o).shown, (PyData.tuple (esD es)).shown, (PyData.bool h).shown]
    have y : (PyData.tuple (esD es)).shown.length ≤ piled (PyData.shownAll (esD es)) + 3 := by rw [PyData.shown]; exact tuple_len _
    rw [piled_cons, piled_cons, piled_cons, piled_cons] at z
    have p0 : piled [] = 0 := rfl
    rw [p0] at z
    omega
  | node k o es o9 r n _ ih =>
    obtain ⟨i1, i2⟩ := show_es n ih
    obtain ⟨f1, _, _, f4⟩ := folder_flat.show
    obtain ⟨o1, _, _, o4⟩ := (flat_int o9).show
    rw [ndD, cnt]
    refine ⟨by simp [PyData.showable, PyData.showableAll, i1, o1], ?_⟩
    rw [PyData.shown, PyData.shownAll, PyData.shownAll, PyData.shownAll, PyData.shownAll]
    have z := tuple_len [(PyData.str "folder").shown, (nD o).shown, (PyData.tuple (esD es)).shown]
    have y : (PyData.tuple (esD es)).shown.length ≤ piled (PyData.shownAll (esD es)) + 3 := by rw [PyData.shown]; exact tuple_len _
    rw [piled_cons, piled_cons, piled_cons] at z
    have p0 : piled [] = 0 := rfl
    rw [p0] at z
    omega
/-- a row of nodes has a repr -/
theorem okShow_nds {n k : Nat} (ms : List Nd) (h : ∀ m ∈ ms, (∃ b, Fit b k m) ∧ cnt m ≤ n) (hk : k ≤ 18) (hn : ms.length * n ≤ 60000) (hl : ms.length ≤ 1000) : okShow (.list (ms.map ndD)) = true ∧ okShow (.tuple (ms.map ndD)) = true := by
  have go : ∀ ms : List Nd, (∀ m ∈ ms, (∃ b, Fit b k m) ∧ cnt m ≤ n) → stdAll (ms.map ndD) = ms.map ndD ∧ PyData.showableAll (ms.map ndD) = true ∧ PyData.hasDictAll (ms.map ndD) = false ∧ PyData.depthAll (ms.map ndD) ≤ 3 * k + 1 ∧ piled (PyData.shownAll (ms.map ndD)) ≤ 200 * (ms.length * n) := fun ms => by
    induction ms with
    | nil => intro _; exact ⟨by rw [List.map_nil, stdAll], by rw [List.map_nil, PyData.showableAll], by rw [List.map_nil, PyData.hasDictAll], by simp, by rw [List.map_nil, PyData.shownAll]; exact Nat.zero_le _⟩
    | cons m ms ih =>
      intro h
      obtain ⟨a1, a2, a3, a4, a5⟩ := ih fun x hx => h x (List.mem_cons_of_mem _ hx)
      obtain ⟨⟨b, f⟩, c⟩ := h m List.mem_cons_self
      obtain ⟨s1, s2⟩ := f.show
      have d := f.depth
      rw [List.map_cons]
      refine ⟨by rw [stdAll, std_ndD, a1], by rw [PyData.showableAll, s1, a2]; rfl, by rw [PyData.hasDictAll, noDict_ndD, a3]; rfl, by simp; omega, ?_⟩
      have e : (ms.length + 1) * n = ms.length * n + n := Nat.succ_mul _ _
      rw [PyData.shownAll, piled_cons, List.length_cons]
      omega
  obtain ⟨a1, a2, a3, a4, a5⟩ := go ms h
  have t := tuple_len (PyData.shownAll (ms.map ndD))
  have l := list_len (PyData.shownAll (ms.map ndD))
  refine ⟨?_, ?_⟩
  · unfold okShow
    rw [std, a1]
    have e : (PyData.list (ms.map ndD)).shown = listText (PyData.shownAll (ms.map ndD)) := by rw [PyData.shown]
    have z : (PyData.list (ms.map ndD)).shown.length ≤ sizeLine := by rw [e]; simp only [sizeLine]; omega
    simp [PyData.showable, PyData.hasDict, PyData.depth, a2, a3, z]
    omega
  · unfold okShow
    rw [std, a1]
    have e : (PyData.tuple (ms.map ndD)).shown = tupleText (PyData.shownAll (ms.map ndD)) := by rw [PyData.shown]
    have z : (PyData.tuple (ms.map ndD)).shown.length ≤ sizeLine := by rw [e]; simp only [sizeLine]; omega
    simp [PyData.showable, PyData.hasDict, PyData.depth, a2, a3, z]
    omega
end Lw
end
section
set_option Elab.async false
set_option linter.all false
set_option maxRecDepth 100000
set_option maxHeartbeats 4000000
/-! LA: readings: draws, what is a name, a text, a mode. -/
namespace Lw
open PySem PySem.Spec PyProof.Rows L2 PD
variable [TB]
@[simp] theorem at5_0 (a b c d e : PyData) : atI [a, b, c, d, e] 0 = some a := rfl
@[simp] theorem at5_1 (a b c d e : PyData) : atI [a, b, c, d, e] 1 = some b := rfl
@[simp] theorem at5_2 (a b c d e : PyData) : atI [a, b, c, d, e] 2 = some c := rfl
@[simp] theorem at5_3 (a b c d e : PyData) : atI [a, b, c, d, e] 3 = some d := rfl
@[simp] theorem at5_4 (a b c d e : PyData) : atI [a, b, c, d, e] 4 = some e := rfl
@[simp] theorem ix5_1 : ixN 5 1 = some 1 := rfl
@[simp] theorem ix5_2 : ixN 5 2 = some 2 := rfl
@[simp] theorem ix5_3 : ixN 5 3 = some 3 := rfl
@[simp] theorem ix5_4 : ixN 5 4 = some 4 := rfl
theorem mul_ok {i j : Int} (h1 : -(2 ^ 64) < j) (h2 : j < 2 ^ 64) : mulD (.int i) (.int j) = some (.int (i * j)) := by
  have : CMul i j := by unfold CMul; omega
  simp [mulD, this]
theorem mul_okL {i j : Int} (h1 : -(2 ^ 64) < i) (h2 : i < 2 ^ 64) : mulD (.int i) (.int j) = some (.int (i * j)) := by
  have : CMul i j := by unfold CMul; omega
  simp [mulD, this]
theorem mul_mod {a m j : Int} (h1 : 0 < m) (h2 : m ≤ 2 ^ 62) : mulD (.int (a % m)) (.int j) = some (.int (a % m * j)) := by
  have h3 := Int.emod_nonneg a (show m ≠ 0 by omega)
  have h4 := Int.emod_lt_of_pos a h1
  exact mul_okL (by omega) (by omega)
theorem mod_ok {i j : Int} (h : 0 < j) : modD (.int i) (.int j) = some (.int (i % j)) := by simp [modD, h]
theorem div_ok {i j : Int} (h : 0 < j) (h2 : j < 1073741824) : divD (.int i) (.int j) = some (.int (i / j)) := by simp [divD, h, h2]
theorem pow_ok : powD (.int 10) (.int 18) = some (.int 1000000000000000000) := rfl
theorem sq_of {t u : PTS} {E : PEnds} {s : PSt} (I : PSt → Prop) (hu : ∀ s', I s' → u E s') (ht : ∀ N : PSt → Prop, (∀ s', I s' → N s') → t { E with nx := N } s) : tSq t u E s := ht _ hu
def S__law_draw : FSpec := fun avs hd Q E => ∃ n : Nat, avs = [.hand, .d (.int (n : Int))] ∧ 0 < n ∧ n ≤ 1000 ∧ HandD hd ∧ ∀ v hd', v < n → HandD hd' → Q (nD v) hd'
theorem rd__law_draw (avs hd Q E) (h : S__law_draw avs hd Q E) : t__law_draw (fnEnds false Q) ⟨initG ["hand", "many", "cell", "digit", "number"] avs, hd⟩ := by
  obtain ⟨n, rfl, n0, n1, ⟨cells, i, c, s, k, rfl, hc, c0, s0, k0⟩, q⟩ := h
  simp only [t__law_draw]
  refine sq_of (fun s' => ∃ hd' S2, s' = ⟨[.h, .v (.int (n : Int)), S2, .no, .no], hd'⟩ ∧ HandD hd') ?_ fun N hN => ?_
  · rintro s' ⟨hd', S2, rfl, ⟨cells, i, c, s, k, rfl, hc, c0, s0, k0⟩⟩
    refine sq_of (fun s' => ∃ S2 S3 c, 0 ≤ c ∧ s' = ⟨[.h, .v (.int (n : Int)), S2, S3, .no], [.list (cells.map .int), .int i, .int c, .int s, .int k]⟩) ?_ fun N hN => ?_
    · rintro s' ⟨S2, S3, c, c0, rfl⟩
      simp
      refine ⟨_, mul_okL (by decide) (by decide), _, rfl, _, rfl, _, mul_ok (by decide) (by decide), _, rfl, _, mod_ok (by decide), _, div_ok (by decide) (by decide), _, rfl, _, mul_mod (by decide) (by decide), _, rfl, _, mod_ok (by decide), _, div_ok (by decide) (by decide), _, rfl, _, mul_mod (by decide) (by decide), _, rfl, _, mod_ok (by decide), _, div_ok (by decide) (by decide), _, rfl, _, mod_ok (by omega), ?_⟩
      generalize hz : (_ : Int) / 16 = z
      have h1 := Int.emod_nonneg z (show (n : Int) ≠ 0 by omega)
      have h2 := Int.emod_lt_of_pos z (show (0 : Int) < n by omega)
      have e : PyData.int (z % (n : Int)) = nD (z % (n : Int)).toNat := by unfold nD; congr 1; omega
      rw [e]
      exact q _ _ (by omega) ⟨cells, i, c, s, k + 1, rfl, hc, c0, s0, by omega⟩
    · simp
      by_cases h : 0 < c
      · refine .inr ⟨h, _, mod_ok (by omega), _, div_ok (by omega) (by omega), ?_⟩
        have h1 := Int.emod_nonneg c (show (n : Int) ≠ 0 by omega)
        have h2 := Int.emod_lt_of_pos c (show (0 : Int) < n by omega)
        have e : PyData.int (c % (n : Int)) = nD (c % (n : Int)).toNat := by unfold nD; congr 1; omega
        rw [e]
        exact q _ _ (by omega) ⟨cells, i, _, s, k, rfl, hc, Int.ediv_nonneg c0 (by omega), s0, k0⟩
      · exact .inl ⟨by omega, hN _ ⟨S2, .no, c, c0, rfl⟩⟩
  · simp [pow_ok, and_assoc]
    by_cases h : c = 0
    · refine .inr ⟨h, ?_⟩
      by_cases hi : i < cells.length
      · have ex : ixD (.list (cells.map .int)) (.int (i : Int)) = some (.int cells[i]) := by
          rw [ixD_list (by simpa using hi)]; simp
        have x0 := hc _ (List.getElem_mem hi)
        refine .inr ⟨hi, _, ex, _, mul_ok (by decide) (by decide), _, rfl, _, rfl, _, rfl, _, mod_ok (by decide), _, geD_int _ _, ?_⟩
        have m0 := Int.emod_nonneg (s * 69621 + cells[i] + 241) (show (2147483629 : Int) ≠ 0 by decide)
        by_cases hg : (1000000000000000000 : Int) ≤ cells[i]
        · exact .inr ⟨by simp [hg], hN _ ⟨_, _, rfl, cells, i + 1, cells[i], _, k, rfl, hc, x0, m0, k0⟩⟩
        · exact .inl ⟨by simp [hg], hN _ ⟨_, _, rfl, cells, i + 1, c, _, k, rfl, hc, c0, m0, k0⟩⟩
      · exact .inl ⟨by omega, hN _ ⟨_, _, rfl, cells, i, c, s, k, rfl, hc, c0, s0, k0⟩⟩
    · exact .inl ⟨h, hN _ ⟨_, _, rfl, cells, i, c, s, k, rfl, hc, c0, s0, k0⟩⟩
theorem rng_natE (n : Nat) : rngD 0 n = (List.range n).map nD := rngD_nat n
def S__law_any : FSpec := fun avs hd Q E => ∃ ds : List PyData, avs = [.hand, .d (.list ds)] ∧ 0 < ds.length ∧ ds.length ≤ 1000 ∧ HandD hd ∧ ∀ d ∈ ds, ∀ hd', HandD hd' → Q d hd'
theorem rd__law_any (avs hd Q E) (h : S__law_any avs hd Q E) : t__law_any S__law_draw (fnEnds false Q) ⟨initG ["hand", "things"] avs, hd⟩ := by
  obtain ⟨ds, rfl, h0, h1, hh, q⟩ := h
  simp only [t__law_any]
  simp [S__law_draw, and_assoc]
  refine ⟨ds.length, rfl, h0, h1, hh, fun v hd' hv hh' => ⟨ds[v], ?_, q _ (List.getElem_mem hv) hd' hh'⟩⟩
  show ixD _ (.int (v : Int)) = _
  rw [ixD_list hv]
/-! ### basics -/
def S_is_integer : FSpec := fun avs hd Q E => ∃ n : Nat, avs = [.d (nD n)] ∧ Q (.bool true) hd
theorem rd_is_integer (avs hd Q E) (h : S_is_integer avs hd Q E) : t_is_integer (fnEnds false Q) ⟨initG ["thing"] avs, hd⟩ := by
  obtain ⟨n, rfl, q⟩ := h
  simpa [t_is_integer, nD] using q
def S_is_within : FSpec := fun avs hd Q E => ∃ (n : Nat) (lo hi : Int), avs = [.d (nD n), .d (.int lo), .d (.int hi)] ∧ lo ≤ (n : Int) ∧ (n : Int) ≤ hi ∧ Q (.bool true) hd
theorem rd_is_within (avs hd Q E) (h : S_is_within avs hd Q E) : t_is_within S_is_integer (fnEnds false Q) ⟨initG ["thing", "low", "high"] avs, hd⟩ := by
  obtain ⟨n, lo, hi, rfl, h1, h2, q⟩ := h
  simp [t_is_within, S_is_integer]
  refine ⟨⟨n, rfl⟩, ?_⟩
  simp [nD, h1, h2]
  exact q
def S_is_flag : FSpec := fun avs hd Q E => ∃ b : Bool, avs = [.d (.bool b)] ∧ Q (.bool true) hd
theorem rd_is_flag (avs hd Q E) (h : S_is_flag avs hd Q E) : t_is_flag (fnEnds false Q) ⟨initG ["thing"] avs, hd⟩ := by
  obtain ⟨b, rfl, q⟩ := h
  simpa [t_is_flag] using q
def S_is_sized : FSpec := fun avs hd Q E => ∃ (ds : List PyData) (lo hi : Int), avs = [.d (.tuple ds), .d (.int lo), .d (.int hi)] ∧ Q (.bool (decide (lo ≤ (ds.length : Int) ∧ (ds.length : Int) ≤ hi))) hd
theorem rd_is_sized (avs hd Q E) (h : S_is_sized avs hd Q E) : t_is_sized (fnEnds false Q) ⟨initG ["thing", "low", "high"] avs, hd⟩ := by
  obtain ⟨ds, lo, hi, rfl, q⟩ := h
  simp [t_is_sized]
  by_cases h1 : lo ≤ (ds.length : Int)
  · exact .inr ⟨h1, by simpa [h1] using q⟩
  · exact .inl ⟨by omega, by simpa [h1] using q⟩
theorem cut_tail (ds : List PyData) : PD.cutD ds (some 1) none = ds.tail := by
  unfold PD.cutD
  rw [HT.sIx_none, show (some (1 : Int)) = some ((1 : Nat) : Int) from rfl, HT.sIx_nat]
  cases ds with
  | nil => rfl
  | cons x l =>
    have e : min 1 (x :: l).length = 1 := by simp
    rw [e]
    simp
theorem ltD_str (x y : Str) : ltD (.str x) (.str y) = some (.bool (decide (slt x y))) := by
  simp [ltD, okLt, PySem.W.alike, lt_str]
theorem rising_zip : ∀ {l : List Str}, l.Pairwise slt → (l.zip l.tail).all (fun p => decide (slt p.1 p.2)) = true
  | [], _ => rfl
  | [x], _ => rfl
  | x :: y :: l, h => by
    have h1 := List.pairwise_cons.mp h
    have h2 := rising_zip (l := y :: l) h1.2
    have h3 := h1.1 y List.mem_cons_self
    show ((x, y) :: (y :: l).zip l).all _ = true
    rw [List.all_cons]
    simp only [Bool.and_eq_true, decide_eq_true_eq]
    exact ⟨h3, h2⟩
theorem zip_strs (l m : List Str) : zipD (l.map .str) (m.map .str) = (l.zip m).map fun p => pairD (.str p.1) (.str p.2) := by
  unfold zipD
  rw [List.zip_map]
  simp
def S_are_rising : FSpec := fun avs hd Q E => ∃ l : List Str, avs = [.d (.list (l.map .str))] ∧ l.Pairwise slt ∧ l.length ≤ 1000 ∧ Q (.bool true) hd
theorem rd_are_rising (avs hd Q E) (h : S_are_rising avs hd Q E) : t_are_rising (fnEnds false Q) ⟨initG ["things", "one", "other"] avs, hd⟩ := by
  obtain ⟨l, rfl, hr, hl, q⟩ := h
  have e : slD (.list (l.map .str)) (some 1) none = some (.list (l.tail.map .str)) := by
    show some (PyData.list (PD.cutD _ _ _)) = _
    rw [cut_tail, List.map_tail]
  simp only [t_are_rising]
  simp [e]
  refine ⟨_, _, ⟨rfl, rfl⟩, ?_⟩
  rw [← List.map_tail, zip_strs]
  refine ⟨by simp [sizeLine]; omega, cRun_of _ (fun p => .bool (decide (slt p.1 p.2))) _ (fun p hp Y y => by simpa [and_assoc, ltD_str] using y) _ _ ?_⟩
  simp only [List.nil_append, allD_map, rising_zip hr]
  exact ⟨_, rfl, q⟩
end Lw
end
section
set_option Elab.async false
set_option linter.all false
set_option maxRecDepth 100000
set_option maxHeartbeats 4000000
/-! LB: readings: names, texts, nodes. -/
namespace Lw
open PySem PySem.Spec PyProof.Rows L2 PD
variable [TB]
def S_is_name : FSpec := fun avs hd Q E => ∃ x : Str, avs = [.d (.str x)] ∧ isName x = true ∧ Q (.bool true) hd
theorem inD_str (x y : Str) : inD (.str x) (.str y) = some (.bool (!(Builtin.Str.occurrences y x 0 y.length 1).isEmpty)) := rfl
theorem inD_yes {x y : Str} (h : (!(Builtin.Str.occurrences y x 0 y.length 1).isEmpty) = true) : inD (.str x) (.str y) = some (.bool true) := by rw [inD_str, h]
theorem occ_signs : inD (.str "a") (.str "abcdefghijklmnopqrstuvwxyz0123456789.") = some (.bool true) ∧ inD (.str "b") (.str "abcdefghijklmnopqrstuvwxyz0123456789.") = some (.bool true) ∧ inD (.str "c") (.str "abcdefghijklmnopqrstuvwxyz0123456789.") = some (.bool true) ∧ inD (.str "d") (.str "abcdefghijklmnopqrstuvwxyz0123456789.") = some (.bool true) := by
  refine ⟨inD_yes ?_, inD_yes ?_, inD_yes ?_, inD_yes ?_⟩ <;> decide +kernel
theorem in_dots {x : Str} (h : isName x = true) : inD (.str x) (.tuple [.str ".", .str ".."]) = some (.bool false) := by
  have := name_mem h
  unfold names4 at this
  simp at this
  have e1 : ∀ y : Str, y ≠ x → PyData.eqv (.str y) (.str x) = false := fun y h => by rw [eqv_str]; exact decide_eq_false h
  rcases this with rfl | rfl | rfl | rfl <;>
    (simp only [inD, isIn, okIn, List.any_cons, List.any_nil]; rw [e1 _ (by decide), e1 _ (by decide)]; simp)
theorem signs_name {x : Str} (h : isName x = true) : ∃ y : Str, x = y ∧ PD.signs x = [.str y] ∧ x.length = 1 ∧ inD (.str y) (.str "abcdefghijklmnopqrstuvwxyz0123456789.") = some (.bool true) := by
  have := name_mem h
  unfold names4 at this
  simp at this
  obtain ⟨a, b, c, d⟩ := occ_signs
  rcases this with rfl | rfl | rfl | rfl
  · exact ⟨"a", rfl, rfl, rfl, a⟩
  · exact ⟨"b", rfl, rfl, rfl, b⟩
  · exact ⟨"c", rfl, rfl, rfl, c⟩
  · exact ⟨"d", rfl, rfl, rfl, d⟩
theorem lenD_str {x : Str} (h : x.length ≤ 1000) : lenD [.str x] = some (.int x.length) := if_pos (by simp only [sizeLine]; omega)
theorem rd_is_name (avs hd Q E) (h : S_is_name avs hd Q E) : t_is_name (fnEnds false Q) ⟨initG ["thing", "sign"] avs, hd⟩ := by
  obtain ⟨x, rfl, hx, q⟩ := h
  obtain ⟨y, e1, e2, e3, e4⟩ := signs_name hx
  have e5 := in_dots hx
  simp only [t_is_name]
  have e6 := lenD_str (x := x) (by omega)
  rw [e3] at e6
  simp [-PD.signs, e2, e5, e6]
  refine ⟨by simp [sizeLine], by simp [sizeLine], ?_⟩
  show cRun _ _ _ _ _ (List.map (fun _ : Unit => PyData.str y) [()]) _ _ _
  refine cRun_of (fun _ : Unit => .str y) (fun _ => .bool true) [()] (fun d hd Y k => ?_) _ _ ?_
  · simp [e4]
    exact k
  · exact ⟨_, allD_map (fun _ => true) [()], q⟩
def S_is_text : FSpec := fun avs hd Q E => ∃ x : Str, avs = [.d (.str x)] ∧ isTxt x = true ∧ Q (.bool true) hd
def okSign (c : Str) : Bool := !decide (slt c " ") && !decide (slt "~" c)
theorem le_strs (x y : Str) : leD (.str x) (.str y) = some (.bool (!decide (slt y x))) := by
  simp [leD, okLt, PySem.W.alike, lt_str]
theorem txt_all {x : Str} (h : isTxt x = true) : x.length ≤ 40 ∧ ∀ c ∈ x.cps.toList, okSign ⟨#[c]⟩ = true := by
  unfold isTxt at h
  simp at h
  rcases h with ((((h | h) | h) | h) | h) | h <;> (rw [h]; refine ⟨by decide, by decide⟩)
theorem rd_is_text (avs hd Q E) (h : S_is_text avs hd Q E) : t_is_text (fnEnds false Q) ⟨initG ["thing", "sign"] avs, hd⟩ := by
  obtain ⟨x, rfl, hx, q⟩ := h
  obtain ⟨h1, h2⟩ := txt_all hx
  simp only [t_is_text]
  have h3 : (x.length : Int) ≤ 40 := by omega
  simp [h3, lenD_str (x := x) (by omega)]
  have l : x.cps.size = x.length := rfl
  refine ⟨by simp [sizeLine]; omega, cRun_of (fun c => .str ⟨#[c]⟩) (fun _ => .bool true) x.cps.toList (fun c hc Y k => ?_) _ _ ?_⟩
  · have := h2 c hc
    unfold okSign at this
    simp at this
    simp [le_strs, this]
    exact k
  · exact ⟨_, allD_map (fun _ => true) _, by rw [List.all_eq_true.mpr fun _ _ => rfl]; exact q⟩
def S_is_mode : FSpec := fun avs hd Q E => ∃ n : Nat, avs = [.d (nD n)] ∧ n ≤ 9 ∧ Q (.bool true) hd
theorem rd_is_mode (avs hd Q E) (h : S_is_mode avs hd Q E) : t_is_mode S_is_within (fnEnds false Q) ⟨initG ["thing"] avs, hd⟩ := by
  obtain ⟨n, rfl, h1, q⟩ := h
  simp [t_is_mode, S_is_within]
  exact ⟨n, 0, 63, ⟨rfl, rfl, rfl⟩, by omega, by omega, q⟩
def S_are_named : FSpec := fun avs hd Q E => ∃ es : Es, avs = [.d (.tuple (esD es))] ∧ Rise es ∧ (∀ p ∈ es, isName p.1 = true) ∧ Q (.bool true) hd
theorem rd_are_named (avs hd Q E) (h : S_are_named avs hd Q E) : t_are_named S_is_sized S_are_rising S_is_name (fnEnds false Q) ⟨initG ["thing", "pair"] avs, hd⟩ := by
  obtain ⟨es, rfl, r, n, q⟩ := h
  have l4 := few4 r n
  simp only [t_are_named]
  rw [esD_map]
  simp
  refine ⟨by simp [sizeLine]; omega, cRun_of entD (fun _ => .bool true) es (fun p hp Y y => ?_) _ _ ⟨_, allD_map (fun _ => true) _, ?_⟩⟩
  · have := n p hp
    simp [entD, S_is_sized, S_is_name, ix_zero, and_assoc]
    exact ⟨this, y⟩
  · have all : (es.all fun _ => true) = true := by simp
    rw [all]
    simp
    refine ⟨by simp [sizeLine]; omega, cRun_of entD (fun p => .str p.1) es (fun p hp Y y => ?_) _ _ ?_⟩
    · simp [entD, ix_zero]
      exact y
    · simp [S_are_rising]
      refine ⟨es.map (·.1), by rw [List.map_map]; rfl, ?_, by simp; omega, q⟩
      rw [List.pairwise_map]
      exact r
end Lw
end
section
set_option Elab.async false
set_option linter.all false
set_option maxRecDepth 100000
set_option maxHeartbeats 4000000
/-! LC: readings: nodes and trees judged. -/
namespace Lw
open PySem PySem.Spec PyProof.Rows L2 PD
variable [TB]
@[simp] theorem isTupD_tup (ds : List PyData) : isTupD (.tuple ds) = true := rfl
def S_is_small_node : FSpec := fun avs hd Q E => ∃ l : Lf, avs = [.d (lfD l)] ∧ LfOk l ∧ Q (.bool true) hd
theorem file_link : (("file" : String) : Str) ≠ ("link" : String) := by decide
theorem rd_is_small_node (avs hd Q E) (h : S_is_small_node avs hd Q E) : t_is_small_node S_is_text S_is_mode (fnEnds false Q) ⟨initG ["thing"] avs, hd⟩ := by
  obtain ⟨l, rfl, hl, q⟩ := h
  simp only [t_is_small_node]
  cases l with
  | file x m =>
    obtain ⟨h1, h2⟩ := hl
    simp [lfD, ix_zero, ix_one, ix_two, S_is_text, S_is_mode]
    refine ⟨h1, m, rfl, h2, q⟩
  | link x =>
    obtain ⟨h1, h2⟩ := hl
    simp [lfD, ix_zero, ix_one, S_is_text, Ne.symm file_link]
    refine ⟨h1, ?_⟩
    simpa [h2] using q
def S_is_folder_node : FSpec := fun avs hd Q E => ∃ (k : Nat) (m : Nd), avs = [.d (ndD m)] ∧ Fit false k m ∧ Q (.bool (isF m)) hd
@[simp] theorem isStr_str (x : Str) : (PyData.str x).isStr = true := rfl
theorem file_folder : (("file" : String) : Str) ≠ ("folder" : String) := by decide
theorem link_folder : (("link" : String) : Str) ≠ ("folder" : String) := by decide
theorem gone_folder : (("gone" : String) : Str) ≠ ("folder" : String) := by decide
theorem names_pair {es : Es} (n : ∀ p ∈ es, isName p.1 = true) : ∀ (a : Str) (b : Nd), (a, b) ∈ es → isName a = true := fun a b h => n (a, b) h
theorem rd_is_folder_node (avs hd Q E) (h : S_is_folder_node avs hd Q E) : t_is_folder_node S_is_sized S_is_mode S_are_named (fnEnds false Q) ⟨initG ["thing"] avs, hd⟩ := by
  obtain ⟨k, m, rfl, hm, q⟩ := h
  simp only [t_is_folder_node]
  cases hm with
  | leaf _ _ l hl =>
    cases l with
    | file x m =>
      rw [ndD_leaf]
      simp [lfD, ix_zero, S_is_sized]
      refine ⟨_, _, _, ⟨rfl, rfl, rfl⟩, ?_⟩
      simp [file_folder]
      exact q
    | link x =>
      rw [ndD_leaf]
      simp [lfD, ix_zero, S_is_sized]
      refine ⟨_, _, _, ⟨rfl, rfl, rfl⟩, ?_⟩
      simp
      exact q
  | node k o es o9 r n _ =>
    rw [ndD_node]
    simp [ix_zero, ix_one, ix_two, S_is_sized, S_is_mode, S_are_named]
    refine ⟨_, _, _, ⟨rfl, rfl, rfl⟩, ?_⟩
    simp
    exact ⟨o, rfl, o9, es, rfl, r, names_pair n, q⟩
/-! ### a walk over nodes: a row of those that wait -/
def siz : List (Nd × Nat) → Nat
  | [] => 0
  | (m, _) :: r => cnt m + siz r
theorem siz_app (a b : List (Nd × Nat)) : siz (a ++ b) = siz a + siz b := by
  induction a with
  | nil => simp [siz]
  | cons p a ih =>
    obtain ⟨m, d⟩ := p
    show cnt m + siz (a ++ b) = cnt m + siz a + siz b
    rw [ih]; omega
theorem siz_map (es : Es) (d : Nat) : siz (es.map fun p => (p.2, d)) = cntL es := by
  induction es with
  | nil => rw [cntL]; rfl
  | cons p es ih =>
    obtain ⟨n, m⟩ := p
    rw [cntL, ← ih]; rfl
theorem cnt_pos (m : Nd) : 1 ≤ cnt m := by cases m <;> rw [cnt] <;> omega
theorem siz_len (a : List (Nd × Nat)) : a.length ≤ siz a := by
  induction a with
  | nil => exact Nat.le_refl _
  | cons p a ih =>
    obtain ⟨m, d⟩ := p
    have := cnt_pos m
    show a.length + 1 ≤ cnt m + siz a
    omega
def waitD (p : Nd × Nat) : PyData := .tuple [ndD p.1, nD p.2]
theorem gt_nDD (a b : Nat) : gtD (nD a) (.int (b : Int)) = some (.bool (decide (b < a))) := by simp [nD]
def S_is_node : FSpec := fun avs hd Q E => ∃ (k : Nat) (m : Nd), avs = [.d (ndD m)] ∧ Fit false k m ∧ k ≤ 9 ∧ cnt m ≤ 200 ∧ Q (.bool true) hd
theorem tWh_ind {c : PTT} {tb : PTS} {E : PEnds} {s : PSt} (I : Nat → PSt → Prop) {k : Nat} (h : I k s)
    (step : ∀ (k : Nat) (s : PSt) (N : PSt → Prop), I k s → (∀ k' s', k' < k → I k' s' → N s') → c s fun b s1 => if b = true then tb (E.lp N) s1 else E.nx s1) : tWh c tb E s :=
  ⟨I, ⟨k, h⟩, fun m s hI => step m s _ hI fun k' s' lt h' => ⟨k', lt, h'⟩⟩
@[simp] theorem truthy_snoc (l : List PyData) (x : PyData) : (PyData.list (l ++ [x])).truthy = true := by
  cases l <;> rfl
@[simp] theorem truthy_nil : (PyData.list []).truthy = false := rfl
def WIn (b : Bool) (w : List (Nd × Nat)) : Prop := ∀ p ∈ w, ∃ k, Fit b k p.1 ∧ p.2 + k ≤ 9
theorem WIn.app {b : Bool} {w v : List (Nd × Nat)} (h : WIn b w) (k : WIn b v) : WIn b (w ++ v) := fun p hp => (List.mem_append.mp hp).elim (h p) (k p)
theorem WIn.subs {k o d : Nat} {es : Es} (h : Fit false k (.fold o es none)) (le : d + k ≤ 9) : WIn false (es.map fun p => (p.2, d + 1)) := fun p hp => by
  obtain ⟨q, hq, rfl⟩ := List.mem_map.mp hp
  cases h with
  | node k _ _ _ _ _ f => exact ⟨k, f q hq, by simp only; omega⟩
theorem rd_is_node (avs hd Q E) (h : S_is_node avs hd Q E) : t_is_node S_is_small_node S_is_folder_node (fnEnds false Q) ⟨initG ["thing", "count", "waiting", "node", "depth", "name", "inner"] avs, hd⟩ := by
  obtain ⟨k, m, rfl, hm, hk, hc, q⟩ := h
  simp only [t_is_node]
  simp
  refine ⟨by simp [sizeLine], by simp [sizeLine], _, _, ⟨rfl, rfl⟩, ?_⟩
  refine tWh_ind (fun j s => ∃ (c : Nat) (w : List (Nd × Nat)) (S3 S4 S5 S6 : Sl), s = ⟨[.v (ndD m), .v (.int (c : Nat)), .m (.list (w.map waitD)), S3, S4, S5, S6], hd⟩ ∧ c + siz w = cnt m ∧ j = siz w ∧ WIn false w) (k := cnt m) ⟨0, [(m, 0)], .no, .no, .no, .no, rfl, ?_, ?_, ?_⟩ ?_
  · show 0 + (cnt m + 0) = cnt m
    omega
  · exact (Nat.add_zero _).symm
  · intro p hp
    rw [List.mem_singleton.mp hp]
    exact ⟨k, hm, by simpa using hk⟩
  · rintro j s N ⟨c, w, S3, S4, S5, S6, rfl, e1, rfl, hw⟩ hN
    rcases List.eq_nil_or_concat w with rfl | ⟨w, ⟨n, d⟩, rfl⟩
    · simp
      exact q
    · rw [List.concat_eq_append] at *
      obtain ⟨k', hf, hd9⟩ := hw (n, d) (by simp)
      rw [siz_app] at e1 hN
      have e2 : siz [(n, d)] = cnt n := Nat.add_zero _
      have wl := siz_len w
      have hn := cnt_pos n
      have hd9 : d + k' ≤ 9 := hd9
      have c1 : (c : Int) + 1 ≤ 200 := by omega
      have c2 : ¬ (200 : Int) < (c : Int) + 1 := by omega
      have d9 : ¬ 9 < d := by omega
      have hw' : WIn false w := fun p hp => hw p (by simp [hp])
      simp [waitD, gt_nDD, c1, c2, S_is_folder_node]
      refine ⟨_, _, ⟨rfl, rfl⟩, _, _, rfl, rfl, _, gt_nDD d 9, .inl ⟨by simp [d9], k', n, rfl, hf, ?_⟩⟩
      cases hf with
      | leaf _ _ l hl =>
        have e3 : cnt (.leaf l) = 1 := by rw [cnt]
        simp [ndD_leaf, S_is_small_node]
        exact ⟨l, rfl, hl, hN _ _ (by omega) ⟨c + 1, w, _, _, _, _, rfl, by omega, rfl, hw'⟩⟩
      | node k' o es o9 r nm f =>
        have l4 := few4 r nm
        simp
        rw [esD_map]
        refine ⟨by simp [sizeLine]; omega, cRun_of entD (fun p => waitD (p.2, d + 1)) es (fun p hp Y y => ?_) _ _ ?_⟩
        · simp [entD, nD]
          exact ⟨_, _, ⟨rfl, rfl⟩, _, _, rfl, rfl, by simp [sizeLine], y⟩
        · rw [cnt] at e2
          simp
          refine ⟨by simp only [sizeLine]; omega, hN _ _ ?_ ⟨c + 1, w ++ es.map fun p => (p.2, d + 1), _, _, _, _, by rw [List.map_append, List.map_map]; rfl, ?_, rfl, hw'.app (WIn.subs (.node _ _ _ o9 r nm f) hd9)⟩⟩
          · rw [siz_app, siz_map]; omega
          · rw [siz_app, siz_map]; omega
end Lw
end
section
set_option Elab.async false
set_option linter.all false
set_option maxRecDepth 100000
set_option maxHeartbeats 4000000
/-! LD: readings: trees, marks, layers judged. -/
namespace Lw
open PySem PySem.Spec PyProof.Rows L2 PD
variable [TB]
def S_is_tree : FSpec := fun avs hd Q E => ∃ (k : Nat) (m : Nd), avs = [.d (ndD m)] ∧ Fit false k m ∧ k ≤ 9 ∧ cnt m ≤ 200 ∧ isF m = true ∧ Q (.bool true) hd
theorem rd_is_tree (avs hd Q E) (h : S_is_tree avs hd Q E) : t_is_tree S_is_folder_node S_is_node (fnEnds false Q) ⟨initG ["thing"] avs, hd⟩ := by
  obtain ⟨k, m, rfl, hm, hk, hc, hf, q⟩ := h
  simp only [t_is_tree]
  simp [S_is_folder_node, S_is_node]
  exact ⟨k, m, rfl, hm, by simp [hf]; exact ⟨k, m, rfl, hm, hk, hc, q⟩⟩
def S_check_tree : FSpec := fun avs hd Q E => ∃ (k : Nat) (m : Nd), avs = [.d (ndD m)] ∧ Fit false k m ∧ k ≤ 9 ∧ cnt m ≤ 200 ∧ isF m = true ∧ Q .none hd
theorem rd_check_tree (avs hd Q E) (h : S_check_tree avs hd Q E) : t_check_tree S_is_tree (fnEnds false Q) ⟨initG ["thing"] avs, hd⟩ := by
  obtain ⟨k, m, rfl, hm, hk, hc, hf, q⟩ := h
  simp only [t_check_tree]
  simp [S_is_tree]
  exact ⟨k, m, rfl, hm, hk, hc, hf, q⟩
def optD : Option Nd → PyData
  | none => .none
  | some m => ndD m
@[simp] theorem optD_none : optD none = .none := rfl
@[simp] theorem optD_some (m : Nd) : optD (some m) = ndD m := rfl
@[simp] theorem getD_map (x : Option Nd) : (x.map ndD).getD .none = optD x := by cases x <;> rfl
theorem isNone_nd (m : Nd) : isNone (ndD m) = false := by
  obtain ⟨r, e⟩ := ndD_tup m
  rw [e]; rfl
@[simp] theorem isD_nd (m : Nd) : isD (ndD m) .none = some (.bool false) := by rw [isD_none, isNone_nd]
def kdO : Option Nd → Str
  | none => "none"
  | some m => kd m
def S_kind_of : FSpec := fun avs hd Q E => ∃ x : Option Nd, avs = [.d (optD x)] ∧ Q (.str (kdO x)) hd
theorem rd_kind_of (avs hd Q E) (h : S_kind_of avs hd Q E) : t_kind_of (fnEnds false Q) ⟨initG ["node"] avs, hd⟩ := by
  obtain ⟨x, rfl, q⟩ := h
  simp only [t_kind_of]
  cases x with
  | none => simpa [kdO] using q
  | some m => simpa [kdO, isNone_nd] using q
/-! ### all nodes -/
def pathD (p : List Str × Nd) : PyData := .tuple [.tuple (p.1.map .str), ndD p.2]
def sizP : List (List Str × Nd) → Nat
  | [] => 0
  | (_, m) :: r => cnt m + sizP r
theorem sizP_app (a b : List (List Str × Nd)) : sizP (a ++ b) = sizP a + sizP b := by
  induction a with
  | nil => simp [sizP]
  | cons p a ih =>
    obtain ⟨n, m⟩ := p
    show cnt m + sizP (a ++ b) = cnt m + sizP a + sizP b
    rw [ih]; omega
theorem sizP_map (es : Es) (p : List Str) : sizP (es.map fun q => (p ++ [q.1], q.2)) = cntL es := by
  induction es with
  | nil => rw [cntL]; rfl
  | cons q es ih =>
    obtain ⟨n, m⟩ := q
    rw [cntL, ← ih]; rfl
theorem cntL_rev (es : Es) : cntL es.reverse = cntL es := by
  have app : ∀ a b : Es, cntL (a ++ b) = cntL a + cntL b := fun a b => by
    induction a with
    | nil => simp [cntL]
    | cons p a ih =>
      obtain ⟨n, m⟩ := p
      show cntL ((n, m) :: (a ++ b)) = _
      rw [cntL, cntL, ih]; omega
  induction es with
  | nil => rfl
  | cons p es ih =>
    obtain ⟨n, m⟩ := p
    rw [List.reverse_cons, app, ih, cntL, cntL, cntL]; omega
theorem sizP_len (a : List (List Str × Nd)) : a.length ≤ sizP a := by
  induction a with
  | nil => exact Nat.le_refl _
  | cons p a ih =>
    obtain ⟨n, m⟩ := p
    have := cnt_pos m
    show a.length + 1 ≤ cnt m + sizP a
    omega
theorem cntL_len : ∀ es : Es, es.length ≤ cntL es
  | [] => by rw [cntL]; exact Nat.le_refl _
  | (n, m) :: r => by
    have := cnt_pos m
    have := cntL_len r
    rw [cntL, List.length_cons]; omega
theorem cntL_mem : ∀ {es : Es} {p : Str × Nd}, p ∈ es → cnt p.2 ≤ cntL es
  | (n, m) :: r, p, h => by
    rw [cntL]
    rcases List.mem_cons.mp h with e | h
    · rw [e]; exact Nat.le_add_right _ _
    · have := cntL_mem h; omega
theorem rev_es (es : Es) : (esD es).reverse = es.reverse.map entD := by rw [esD_map, List.map_reverse]
def S_nodes_in : FSpec := fun avs hd Q E => ∃ m : Nd, avs = [.d (ndD m)] ∧ cnt m ≤ 1000 ∧ ∀ ds : List PyData, ds.length = cnt m → Q (.list ds) hd
theorem rd_nodes_in (avs hd Q E) (h : S_nodes_in avs hd Q E) : t_nodes_in (fnEnds false Q) ⟨initG ["tree", "found", "waiting", "path", "node", "name", "inner"] avs, hd⟩ := by
  obtain ⟨m, rfl, hc, q⟩ := h
  simp only [t_nodes_in]
  simp
  refine ⟨by simp [sizeLine], by simp [sizeLine], _, _, ⟨rfl, rfl⟩, ?_⟩
  refine tWh_ind (fun j s => ∃ (f w : List (List Str × Nd)) (S3 S4 S5 S6 : Sl), s = ⟨[.v (ndD m), .m (.list (f.map pathD)), .m (.list (w.map pathD)), S3, S4, S5, S6], hd⟩ ∧ f.length + sizP w = cnt m ∧ j = sizP w ∧ ∀ x ∈ w, x.1.length + cnt x.2 ≤ cnt m) (k := cnt m) ⟨[], [([], m)], .no, .no, .no, .no, rfl, ?_, ?_, ?_⟩ ?_
  · show 0 + (cnt m + 0) = cnt m
    omega
  · exact (Nat.add_zero _).symm
  · intro x hx
    rw [List.mem_singleton.mp hx]
    exact Nat.le_of_eq (Nat.zero_add _)
  · rintro j s N ⟨f, w, S3, S4, S5, S6, rfl, e1, rfl, hw⟩ hN
    rcases List.eq_nil_or_concat w with rfl | ⟨w, ⟨p, n⟩, rfl⟩
    · simp [tRtV]
      have e1 : f.length + 0 = cnt m := e1
      exact q _ (by simpa using e1)
    · rw [List.concat_eq_append] at *
      rw [sizP_app] at e1 hN
      have e2 : sizP [(p, n)] = cnt n := Nat.add_zero _
      have wl := sizP_len w
      have hn := cnt_pos n
      have hp : p.length + cnt n ≤ cnt m := hw (p, n) (by simp)
      have hw' : ∀ x ∈ w, x.1.length + cnt x.2 ≤ cnt m := fun x hx => hw x (by simp [hx])
      simp [pathD]
      refine ⟨_, _, ⟨rfl, rfl⟩, _, _, rfl, rfl, ?_⟩
      simp
      refine ⟨by simp [sizeLine], by simp only [sizeLine]; omega, ?_⟩
      cases n with
      | fold o es h =>
        rw [cnt] at e2 hp
        have el := cntL_len es
        have sub : ∀ x ∈ es.reverse.map fun r => (p ++ [r.1], r.2), x.1.length + cnt x.2 ≤ cnt m := fun x hx => by
          obtain ⟨r, hr, rfl⟩ := List.mem_map.mp hx
          have := cntL_mem (List.mem_reverse.mp hr)
          simp only [List.length_append, List.length_singleton]
          omega
        simp
        refine ⟨.tuple (es.reverse.map entD), by show some _ = some _; rw [rev_es], _, .inr rfl, by simp [sizeLine]; omega, cRun_of entD (fun r => pathD (p ++ [r.1], r.2)) es.reverse (fun r hr Y y => ?_) _ _ ?_⟩
        · simp [entD]
          refine ⟨_, _, ⟨rfl, rfl⟩, _, _, rfl, rfl, ?_⟩
          refine ⟨by simp [sizeLine], .tuple (p.map .str ++ [.str r.1]), ?_, by simp [sizeLine], ?_⟩
          · show (if _ then _ else _) = _
            rw [if_pos (by simp [sizeLine]; omega)]
          · have e : pathD (p ++ [r.1], r.2) = .tuple [.tuple (p.map .str ++ [.str r.1]), ndD r.2] := by unfold pathD; rw [List.map_append]; rfl
            rw [e] at y
            exact y
        · refine ⟨by simp [sizeLine]; omega, hN _ _ ?_ ⟨f ++ [(p, .fold o es h)], w ++ es.reverse.map fun r => (p ++ [r.1], r.2), _, _, _, _, by rw [List.map_append, List.map_append, List.map_map]; rfl, ?_, rfl, fun x hx => (List.mem_append.mp hx).elim (hw' x) (sub x)⟩⟩
          · rw [sizP_app, sizP_map, cntL_rev]; omega
          · rw [sizP_app, sizP_map, cntL_rev, List.length_append]
            simp
            omega
      | _ =>
        rw [cnt] at e2
        simp
        exact hN _ _ (by omega) ⟨f ++ [(p, _)], w, _, _, _, _, by rw [List.map_append]; rfl, by rw [List.length_append]; simp; omega, rfl, hw'⟩
end Lw
end
section
set_option Elab.async false
set_option linter.all false
set_option maxRecDepth 100000
set_option maxHeartbeats 4000000
/-! LE: readings: marks, layers judged; how many. -/
namespace Lw
open PySem PySem.Spec PyProof.Rows L2 PD
variable [TB]
def S_all_marks : FSpec := S_nodes_in
theorem rd_all_marks (avs hd Q E) (h : S_all_marks avs hd Q E) : t_all_marks (fnEnds false Q) ⟨initG ["layer", "found", "waiting", "path", "mark", "name", "inner"] avs, hd⟩ := rd_nodes_in avs hd Q E h
def S_check_many : FSpec := fun avs hd Q E => ∃ m : Nd, avs = [.d (ndD m)] ∧ cnt m ≤ 200 ∧ Q (ndD m) hd
theorem rd_check_many (avs hd Q E) (h : S_check_many avs hd Q E) : t_check_many S_nodes_in (fnEnds false Q) ⟨initG ["tree"] avs, hd⟩ := by
  obtain ⟨m, rfl, hc, q⟩ := h
  simp only [t_check_many]
  simp [S_nodes_in]
  refine ⟨m, rfl, by omega, fun ds hl => ?_⟩
  simp [hl]
  exact ⟨by omega, q⟩
def S_check_marks : FSpec := S_check_many
theorem rd_check_marks (avs hd Q E) (h : S_check_marks avs hd Q E) : t_check_marks S_all_marks (fnEnds false Q) ⟨initG ["layer"] avs, hd⟩ := rd_check_many avs hd Q E h
/-! ### marks -/
def S_is_folder_mark : FSpec := fun avs hd Q E => ∃ (k : Nat) (m : Nd), avs = [.d (ndD m)] ∧ Fit true k m ∧ Q (.bool (isF m)) hd
theorem rd_is_folder_mark (avs hd Q E) (h : S_is_folder_mark avs hd Q E) : t_is_folder_mark S_is_flag S_is_sized S_is_mode S_are_named (fnEnds false Q) ⟨initG ["thing"] avs, hd⟩ := by
  obtain ⟨k, m, rfl, hm, q⟩ := h
  simp only [t_is_folder_mark]
  cases hm with
  | gone =>
    rw [ndD_gone]
    simp [ix_zero, S_is_sized]
    refine ⟨_, _, _, ⟨rfl, rfl, rfl⟩, ?_⟩
    simp
    exact q
  | leaf _ _ l hl =>
    cases l with
    | file x m =>
      rw [ndD_leaf]
      simp [lfD, ix_zero, S_is_sized]
      refine ⟨_, _, _, ⟨rfl, rfl, rfl⟩, ?_⟩
      simp
      exact q
    | link x =>
      rw [ndD_leaf]
      simp [lfD, ix_zero, S_is_sized]
      refine ⟨_, _, _, ⟨rfl, rfl, rfl⟩, ?_⟩
      simp
      exact q
  | mark k o es h o9 r n _ =>
    rw [ndD_mark]
    simp [ix_zero, ix_one, ix_two, ix_three, S_is_sized, S_is_mode, S_are_named, S_is_flag]
    refine ⟨_, _, _, ⟨rfl, rfl, rfl⟩, ?_⟩
    simp
    exact ⟨o, rfl, o9, es, rfl, r, names_pair n, q⟩
def S_is_gone : FSpec := fun avs hd Q E => ∃ (m : Nd), avs = [.d (ndD m)] ∧ Q (.bool (isG m)) hd
theorem rd_is_gone (avs hd Q E) (h : S_is_gone avs hd Q E) : t_is_gone S_is_sized (fnEnds false Q) ⟨initG ["thing"] avs, hd⟩ := by
  obtain ⟨m, rfl, q⟩ := h
  simp only [t_is_gone]
  cases m with
  | gone =>
    rw [ndD_gone]
    simp [ix_zero, S_is_sized]
    exact ⟨_, _, _, ⟨rfl, rfl, rfl⟩, by simpa using q⟩
  | leaf l =>
    rw [ndD_leaf]
    cases l <;>
    · simp [lfD, ix_zero, S_is_sized]
      exact ⟨_, _, _, ⟨rfl, rfl, rfl⟩, by simpa using q⟩
  | fold o es h =>
    cases h with
    | none =>
      rw [ndD_node]
      simp [ix_zero, S_is_sized]
      exact ⟨_, _, _, ⟨rfl, rfl, rfl⟩, by simpa using q⟩
    | some h =>
      rw [ndD_mark]
      simp [ix_zero, S_is_sized]
      exact ⟨_, _, _, ⟨rfl, rfl, rfl⟩, by simpa using q⟩
def S_is_layer : FSpec := fun avs hd Q E => ∃ (k : Nat) (m : Nd), avs = [.d (ndD m)] ∧ Fit true k m ∧ k ≤ 9 ∧ cnt m ≤ 200 ∧ isF m = true ∧ Q (.bool true) hd
theorem WIn.subsT {k o d : Nat} {es : Es} {h : Bool} (f : Fit true k (.fold o es (some h))) (le : d + k ≤ 9) : WIn true (es.map fun p => (p.2, d + 1)) := fun p hp => by
  obtain ⟨q, hq, rfl⟩ := List.mem_map.mp hp
  cases f with
  | mark k _ _ _ _ _ _ f => exact ⟨k, f q hq, by simp only; omega⟩
theorem eq_nDD (a b : Nat) : eqD (nD a) (.int (b : Int)) = some (.bool (decide (a = b))) := by simp [nD]; omega
theorem rd_is_layer (avs hd Q E) (h : S_is_layer avs hd Q E) : t_is_layer S_is_small_node S_is_folder_mark S_is_gone (fnEnds false Q) ⟨initG ["thing", "count", "waiting", "mark", "depth", "name", "inner"] avs, hd⟩ := by
  obtain ⟨k, m, rfl, hm, hk, hc, hf, q⟩ := h
  simp only [t_is_layer]
  simp [S_is_folder_mark]
  refine ⟨k, m, rfl, hm, ?_⟩
  simp [hf]
  refine ⟨by simp [sizeLine], by simp [sizeLine], _, _, ⟨rfl, rfl⟩, ?_⟩
  refine tWh_ind (fun j s => ∃ (c : Nat) (w : List (Nd × Nat)) (S3 S4 S5 S6 : Sl), s = ⟨[.v (ndD m), .v (.int (c : Nat)), .m (.list (w.map waitD)), S3, S4, S5, S6], hd⟩ ∧ c + siz w = cnt m ∧ j = siz w ∧ WIn true w) (k := cnt m) ⟨0, [(m, 0)], .no, .no, .no, .no, rfl, ?_, ?_, ?_⟩ ?_
  · show 0 + (cnt m + 0) = cnt m
    omega
  · exact (Nat.add_zero _).symm
  · intro p hp
    rw [List.mem_singleton.mp hp]
    exact ⟨k, hm, by simpa using hk⟩
  · rintro j s N ⟨c, w, S3, S4, S5, S6, rfl, e1, rfl, hw⟩ hN
    rcases List.eq_nil_or_concat w with rfl | ⟨w, ⟨n, d⟩, rfl⟩
    · simp
      exact q
    · rw [List.concat_eq_append] at *
      obtain ⟨k', hf, hd9⟩ := hw (n, d) (by simp)
      rw [siz_app] at e1 hN
      have e2 : siz [(n, d)] = cnt n := Nat.add_zero _
      have wl := siz_len w
      have hn := cnt_pos n
      have hd9 : d + k' ≤ 9 := hd9
      have c1 : (c : Int) + 1 ≤ 200 := by omega
      have c2 : ¬ (200 : Int) < (c : Int) + 1 := by omega
      have d9 : ¬ 9 < d := by omega
      have hw' : WIn true w := fun p hp => hw p (by simp [hp])
      simp [waitD, gt_nDD, c1, c2]
      refine ⟨_, _, ⟨rfl, rfl⟩, _, _, rfl, rfl, _, gt_nDD d 9, .inl ⟨by simp [d9], k', n, rfl, hf, ?_⟩⟩
      cases hf with
      | gone =>
        have e3 : cnt .gone = 1 := by rw [cnt]
        simp [S_is_gone]
        exact ⟨.gone, rfl, by simp; exact hN _ _ (by omega) ⟨c + 1, w, _, _, _, _, rfl, by omega, rfl, hw'⟩⟩
      | leaf _ _ l hl =>
        have e3 : cnt (.leaf l) = 1 := by rw [cnt]
        simp [S_is_small_node, S_is_gone]
        refine ⟨.leaf l, rfl, ?_⟩
        simp [ndD_leaf]
        exact ⟨l, rfl, hl, hN _ _ (by omega) ⟨c + 1, w, _, _, _, _, rfl, by omega, rfl, hw'⟩⟩
      | mark k' o es h o9 r nm f =>
        have l4 := few4 r nm
        have d9' : ¬ d = 9 := by omega
        have fin : ∀ S5 S6 : Sl, es.length ≤ sizeLine ∧ cRun (gTu 2 (gCo (gN 5) (gCo (gN 6) gNi))) tYs (tTp (tCn (tVr 6) (tCn (tBin addD (PD.tSl 4) (tOf (tK (PyData.int 1)))) tNl))) [5, 6] [Sl.v (ndD m), Sl.v (PyData.int (↑c + 1)), Sl.m (PyData.list (List.map waitD w)), Sl.v (ndD (.fold o es (some h))), Sl.v (nD d), S5, S6] (es.map entD) [] hd fun out hd => w.length + out.length ≤ sizeLine ∧ N { G := [Sl.v (ndD m), Sl.v (PyData.int (↑c + 1)), Sl.m (PyData.list (List.map waitD w ++ out)), Sl.v (ndD (.fold o es (some h))), Sl.v (nD d), S5, S6], hd := hd } := fun S5 S6 => by
          refine ⟨by simp only [sizeLine]; omega, cRun_of entD (fun p => waitD (p.2, d + 1)) es (fun p hp Y y => ?_) _ _ ?_⟩
          · simp [entD, nD]
            exact ⟨_, _, ⟨rfl, rfl⟩, _, _, rfl, rfl, by simp [sizeLine], y⟩
          · rw [cnt] at e2
            simp
            refine ⟨by simp only [sizeLine]; omega, hN _ _ ?_ ⟨c + 1, w ++ es.map fun p => (p.2, d + 1), _, _, _, _, by rw [List.map_append, List.map_map]; rfl, ?_, rfl, hw'.app (WIn.subsT (.mark _ _ _ h o9 r nm f) hd9)⟩⟩
            · rw [siz_app, siz_map]; omega
            · rw [siz_app, siz_map]; omega
        simp
        rw [esD_map]
        cases h with
        | true =>
          simp
          exact ⟨_, eq_nDD d 9, .inl ⟨by simp [d9'], fin _ _⟩⟩
        | false =>
          simp
          exact fin _ _
def S_check_layer : FSpec := fun avs hd Q E => ∃ (k : Nat) (m : Nd), avs = [.d (ndD m)] ∧ Fit true k m ∧ k ≤ 9 ∧ cnt m ≤ 200 ∧ isF m = true ∧ Q .none hd
theorem rd_check_layer (avs hd Q E) (h : S_check_layer avs hd Q E) : t_check_layer S_is_layer (fnEnds false Q) ⟨initG ["thing"] avs, hd⟩ := by
  obtain ⟨k, m, rfl, hm, hk, hc, hf, q⟩ := h
  simp only [t_check_layer]
  simp [S_is_layer]
  exact ⟨k, m, rfl, hm, hk, hc, hf, q⟩
end Lw
end
section
set_option Elab.async false
set_option linter.all false
set_option maxRecDepth 100000
set_option maxHeartbeats 4000000
/-! ML7: a dict that is put over, entry by entry. -/
namespace Lw
open PySem PySem.Spec PyProof.Rows L2 PD
structure Upto (f : Nd → Option Nd → Option Nd) (b es : Es) (i : Nat) (L : Es) : Prop where
  uq : Uniq L
  len : L.length ≤ b.length + i
  gt : ∀ k, get L k = match get (es.take i) k with | none => get b k | some m => f m (get b k)
section
variable {f : Nd → Option Nd → Option Nd} {b es L : Es} {i : Nat} {n : Str} {m : Nd}
theorem Upto.zero (u : Uniq b) : Upto f b es 0 b := ⟨u, Nat.le_refl _, fun k => rfl⟩
theorem take_next (h : es[i]? = some (n, m)) : es.take (i + 1) = es.take i ++ [(n, m)] := by
  have hi := (List.getElem?_eq_some_iff.mp h).1
  have e := (List.getElem?_eq_some_iff.mp h).2
  rw [← e]
  exact (List.take_append_getElem hi).symm
theorem take_none (u : Uniq es) (h : es[i]? = some (n, m)) : get (es.take i) n = none := by
  refine get_none.mpr fun z => ?_
  have u2 : Uniq (es.take (i + 1)) := by
    unfold Uniq at *
    exact ((List.take_sublist (i + 1) es).map _).nodup u
  rw [take_next h] at u2
  unfold Uniq at u2
  rw [List.map_append, List.nodup_append] at u2
  exact u2.2.2 n z n (by simp) rfl
theorem Upto.here (U : Upto f b es i L) (u : Uniq es) (h : es[i]? = some (n, m)) : get L n = get b n := by
  rw [U.gt, take_none u h]
theorem Upto.next (U : Upto f b es i L) (u : Uniq es) (h : es[i]? = some (n, m)) {L' : Es} (uq : Uniq L') (len : L'.length ≤ L.length + 1) (g : ∀ k, get L' k = if n = k then f m (get b n) else get L k) : Upto f b es (i + 1) L' := by
  refine ⟨uq, by have := U.len; omega, fun k => ?_⟩
  rw [g, take_next h, get_append]
  by_cases e : n = k
  · subst e
    rw [if_pos rfl, take_none u h, get_cons, if_pos rfl]
    rfl
  · rw [if_neg e, U.gt, get_cons, if_neg e, get_nil, Option.or_none]
theorem drop_length (k : Str) (es : Es) : (drop k es).length ≤ es.length := List.length_filter_le _ _
theorem Upto.drop (U : Upto f b es i L) (u : Uniq es) (h : es[i]? = some (n, m)) (e : f m (get b n) = none) : Upto f b es (i + 1) (drop n L) :=
  U.next u h (drop_uniq U.uq) (Nat.le_trans (drop_length n L) (Nat.le_succ _)) fun k => by rw [get_drop, e]
theorem Upto.put (U : Upto f b es i L) (u : Uniq es) (h : es[i]? = some (n, m)) {r : Nd} (e : f m (get b n) = some r) : Upto f b es (i + 1) (put n r L) :=
  U.next u h (put_uniq U.uq) (put_length n r L) fun k => by rw [get_put, e]
theorem Upto.full (U : Upto f b es es.length L) (k : Str) : get L k = match get es k with | none => get b k | some m => f m (get b k) := by
  have := U.gt k
  rwa [List.take_length] at this
end
variable [TB]
theorem Upto.sort_act {b es L : Es} (U : Upto act b es es.length L) (rb : Rise b) (re : Rise es) : sortK (esD L) = esD (over b (actL es b)) :=
  sortK_esD U.uq (over_rise rb) fun k => by rw [U.full, get_act re rb]; try (cases get es k <;> rfl)
theorem Upto.sort_join {b es L : Es} (U : Upto (fun m x => some (join x m)) b es es.length L) (rb : Rise b) (re : Rise es) : sortK (esD L) = esD (over b (joinL b es)) :=
  sortK_esD U.uq (over_rise rb) fun k => by rw [U.full, get_join re rb]; try (cases get es k <;> rfl)
theorem Upto.srt_act {b es L : Es} (U : Upto act b es es.length L) (rb : Rise b) (re : Rise es) : srtE L = over b (actL es b) :=
  srtE_eq U.uq (over_rise rb) fun k => by rw [U.full, get_act re rb]; try (cases get es k <;> rfl)
theorem Upto.srt_join {b es L : Es} (U : Upto (fun m x => some (join x m)) b es es.length L) (rb : Rise b) (re : Rise es) : srtE L = over b (joinL b es) :=
  srtE_eq U.uq (over_rise rb) fun k => by rw [U.full, get_join re rb]; try (cases get es k <;> rfl)
end Lw
end
section
set_option Elab.async false
set_option linter.all false
set_option maxRecDepth 100000
set_option maxHeartbeats 4000000
/-! LF: readings: what a layer makes, one layer behind another one. -/
namespace Lw
open PySem PySem.Spec PyProof.Rows L2 PD
variable [TB]
def S_made_folder (n : Nat) : FSpec := fun avs hd Q E => ∃ (k : Nat) (u : Nd) (x : Option Nd), avs = [.d (ndD u), .d (optD x)] ∧ Fit true k u ∧ k ≤ n ∧ FitO false k x ∧ isF u = true ∧ ∀ r, act u x = some r → Q (ndD r) hd
theorem ent_at {es : Es} {i : Nat} {d : PyData} (h : (es.map entD)[i]? = some d) : ∃ n m, es[i]? = some (n, m) ∧ d = entD (n, m) := by
  rw [List.getElem?_map] at h
  cases e : es[i]? with
  | none => rw [e] at h; cases h
  | some p =>
    obtain ⟨n, m⟩ := p
    rw [e] at h
    exact ⟨n, m, rfl, (Option.some.inj h).symm⟩
theorem rd_made_folder (n : Nat) (avs hd Q E) (h : S_made_folder (n + 1) avs hd Q E) : t_made_folder S_kind_of (S_made_folder n) (fnEnds false Q) ⟨initG ["mark", "node", "lower", "name", "inner"] avs, hd⟩ := by
  obtain ⟨k, u, x, rfl, hu, hk, hx, hf, q⟩ := h
  cases hu with
  | gone => cases hf
  | leaf => cases hf
  | mark k o es h o9 rs nm f =>
    obtain ⟨b1, b2⟩ := hx.ris.below (some h)
    obtain ⟨c1, c2⟩ := FitO.belo hx (some h)
    have bl := few4 b1 c1
    have l4 := few4 rs nm
    have q := q _ rfl
    simp only [t_made_folder]
    refine sq_of (fun s => s = ⟨[.v (ndD (.fold o es (some h))), .v (optD x), .m (dicD false []), .no, .no], hd⟩) ?_ fun N hN => ?_
    rotate_left
    · simp
      exact hN _ rfl
    rintro s rfl
    refine sq_of (fun s => s = ⟨[.v (ndD (.fold o es (some h))), .v (optD x), .m (dicD false (dicE (below (some h) x))), .no, .no], hd⟩) ?_ fun N hN => ?_
    rotate_left
    · simp [S_kind_of]
      refine ⟨x, rfl, ?_⟩
      cases x with
      | none => exact .inl ⟨by unfold kdO; decide, hN _ rfl⟩
      | some m =>
        cases m with
        | gone => exact .inl ⟨by unfold kdO; simp, hN _ rfl⟩
        | leaf l => exact .inl ⟨by unfold kdO; simp, hN _ rfl⟩
        | fold o' es' h' =>
          refine .inr ⟨rfl, ?_⟩
          cases h with
          | true => rw [if_pos rfl]; exact hN _ rfl
          | false =>
            rw [if_neg Bool.false_ne_true]
            have r' : Rise es' := b1
            have l' : List.length es' ≤ 4 := bl
            refine ⟨⟨_, rfl⟩, _, ix2_fold _ _ _, _, dictAD_esD _, [], rfl, dicE es', by rw [merge_uniq r'.uniq], by rw [dicE_len]; simp only [sizeLine, List.length_nil]; omega, hN _ ?_⟩
            rw [merge_uniq r'.uniq]; rfl
    rintro s rfl
    refine sq_of (fun s => ∃ L S3 S4, s = ⟨[.v (ndD (.fold o es (some h))), .v (optD x), .m (dicD false (dicE L)), S3, S4], hd⟩ ∧ Upto act (below (some h) x) es es.length L) ?_ fun N hN => ?_
    · rintro s ⟨L, S3, S4, rfl, U⟩
      simp
      refine ⟨by simp [sizeLine], ?_⟩
      rw [U.sort_act b1 rs, ← ndD_node]
      exact q
    · simp
      rw [esD_map]
      refine fRun_inv (fun i s => ∃ L S3 S4, s = ⟨[.v (ndD (.fold o es (some h))), .v (optD x), .m (dicD false (dicE L)), S3, S4], hd⟩ ∧ Upto act (below (some h) x) es i L) ?_ ?_ ⟨_, _, _, rfl, Upto.zero b1.uniq⟩
      · rintro i d s N hi ⟨L, S3, S4, rfl, U⟩ hN
        obtain ⟨n, m, e1, rfl⟩ := ent_at hi
        have lh := U.here rs.uniq e1
        simp [entD]
        refine ⟨_, _, ⟨rfl, rfl⟩, _, _, rfl, rfl, ?_⟩
        have hs : (dicE L).length < sizeLine := by
          have := U.len
          have hi := (List.getElem?_eq_some_iff.mp e1).1
          rw [dicE_len]; simp only [sizeLine]; omega
        cases m with
        | gone =>
          simp
          exact ⟨⟨_, rfl⟩, dicE L, rfl, hN _ ⟨drop n L, _, _, by rw [drop_dicE], U.drop rs.uniq e1 rfl⟩⟩
        | leaf l =>
          simp
          show keyFits false _ = true ∧ _ < sizeLine ∧ N _
          exact ⟨rfl, hs, hN _ ⟨put n (.leaf l) L, _, _, by rw [ins_dicE], U.put rs.uniq e1 rfl⟩⟩
        | fold o' es' h' =>
          simp
          refine ⟨.inl ⟨_, rfl⟩, .inl ⟨dicE L, rfl, ?_⟩⟩
          simp [S_made_folder]
          have fm := f _ (get_mem (mem_get rs.uniq (List.mem_of_getElem? e1)))
          refine ⟨k, _, get L n, ⟨rfl, rfl⟩, fm, by omega, by rw [lh]; exact FitO.get c2 n, rfl, fun r hr => ?_⟩
          show keyFits false _ = true ∧ _ < sizeLine ∧ N _
          rw [lh] at hr
          exact ⟨rfl, hs, hN _ ⟨put n r L, _, _, by rw [ins_dicE], U.put rs.uniq e1 hr⟩⟩
      · rintro s ⟨L, S3, S4, rfl, U⟩
        rw [List.length_map] at U
        exact hN _ ⟨L, S3, S4, rfl, U⟩
end Lw
end
section
set_option Elab.async false
set_option linter.all false
set_option maxRecDepth 100000
set_option maxHeartbeats 4000000
/-! LG: readings: made, one_behind. -/
namespace Lw
open PySem PySem.Spec PyProof.Rows L2 PD
variable [TB]
def S_raw_made : FSpec := fun avs hd Q E => ∃ (k : Nat) (u x r : Nd), avs = [.d (ndD u), .d (ndD x)] ∧ Fit true k u ∧ k ≤ 9 ∧ Fit false k x ∧ isF u = true ∧ act u (some x) = some r ∧ cnt r ≤ 200 ∧ Q (ndD r) hd
theorem rd_raw_made (avs hd Q E) (h : S_raw_made avs hd Q E) : t_raw_made (S_made_folder 12) S_check_many (fnEnds false Q) ⟨initG ["layer", "tree"] avs, hd⟩ := by
  obtain ⟨k, u, x, r, rfl, hu, hk, hx, hf, hr, hc, q⟩ := h
  simp only [t_raw_made]
  simp [S_made_folder, S_check_many]
  refine ⟨k, u, some x, ⟨rfl, rfl⟩, hu, by omega, hx, hf, fun r' hr' => ?_⟩
  rw [hr] at hr'
  cases hr'
  exact ⟨r, rfl, hc, q⟩
def S_made : FSpec := fun avs hd Q E => ∃ (k : Nat) (u x r : Nd), avs = [.d (ndD u), .d (ndD x)] ∧ Fit true k u ∧ k ≤ 9 ∧ Fit false k x ∧ isF u = true ∧ isF x = true ∧ cnt u ≤ 200 ∧ cnt x ≤ 200 ∧ act u (some x) = some r ∧ cnt r ≤ 200 ∧ Q (ndD r) hd
theorem rd_made (avs hd Q E) (h : S_made avs hd Q E) : t_made S_check_tree S_check_layer S_raw_made (fnEnds false Q) ⟨initG ["layer", "tree"] avs, hd⟩ := by
  obtain ⟨k, u, x, r, rfl, hu, hk, hx, hf, hg, c1, c2, hr, hc, q⟩ := h
  simp only [t_made]
  simp [S_check_tree, S_check_layer, S_raw_made]
  exact ⟨k, u, rfl, hu, hk, c1, hf, k, x, rfl, hx, hk, c2, hg, k, u, x, ⟨rfl, rfl⟩, hu, hk, hx, hf, r, hr, hc, q⟩
/-! ### one behind another -/
def S_joined_folder (n : Nat) : FSpec := fun avs hd Q E => ∃ (k o o' d : Nat) (es es' : Es) (h' : Bool), avs = [.d (ndD (.fold o' es' (some h'))), .d (ndD (.fold o es (some false))), .d (nD d)] ∧ Fit true k (.fold o es (some false)) ∧ Fit true k (.fold o' es' (some h')) ∧ k ≤ n ∧ d + k ≤ 9 ∧ Q (ndD (join (some (.fold o' es' (some h'))) (.fold o es (some false)))) hd
def S_joined (n : Nat) : FSpec := fun avs hd Q E => ∃ (k d : Nat) (x : Option Nd) (u : Nd), avs = [.d (optD x), .d (ndD u), .d (nD d)] ∧ Fit true k u ∧ FitO true k x ∧ k ≤ n ∧ d + k ≤ 9 ∧ Q (ndD (join x u)) hd
theorem add_tup {a b : List PyData} (h : a.length + b.length ≤ 1000) : addD (.tuple a) (.tuple b) = some (.tuple (a ++ b)) := if_pos (by simp only [sizeLine]; omega)
theorem cut_three (a b c d : PyData) : PD.cutD [a, b, c, d] none (some 3) = [a, b, c] := by rfl
theorem rd_joined (n : Nat) (avs hd Q E) (h : S_joined n avs hd Q E) : t_joined (S_joined_folder n) (fnEnds false Q) ⟨initG ["lower", "upper", "depth"] avs, hd⟩ := by
  obtain ⟨k, d, x, u, rfl, hu, hx, hk, hd9, q⟩ := h
  simp only [t_joined]
  cases x with
  | none =>
    simp at q ⊢
    exact q
  | some l =>
    cases u with
    | gone => simp at q ⊢; first | exact q | (simp [isNone_nd]; exact q)
    | leaf u => simp at q ⊢; first | exact q | (simp [isNone_nd]; exact q)
    | fold o es h =>
      cases h with
      | none => cases hu
      | some h =>
        cases h with
        | true => simp at q ⊢; first | exact q | (simp [isNone_nd]; exact q)
        | false =>
          have d9 : ∀ j, k = j + 1 → ((d : Int) < 9) := fun j e => by omega
          have e3 : slD (ndD (.fold o es (some false))) none (some 3) = some (.tuple [.str "folder", nD o, .tuple (esD es)]) := by rw [ndD_mark]; rfl
          have e4 : ltD (nD d) (.int 9) = some (.bool true) := by
            cases hu with
            | mark k _ _ _ _ _ _ _ => simp [nD]; omega
          have eq1 : ndD (.fold o es (some true)) = .tuple ([.str "folder", nD o, .tuple (esD es)] ++ [.bool true]) := by rw [ndD_mark]; rfl
          cases l with
          | gone =>
            simp at q ⊢
            simp [isNone_nd, e3, e4]
            rw [eq1] at q
            exact ⟨by simp [sizeLine], _, add_tup (by simp), q⟩
          | leaf l =>
            simp at q ⊢
            simp [isNone_nd, e3, e4]
            rw [eq1] at q
            exact ⟨by simp [sizeLine], _, add_tup (by simp), q⟩
          | fold o' es' h' =>
            simp
            simp [isNone_nd, S_joined_folder]
            have hx' : Fit true k (.fold o' es' h') := hx
            cases h' with
            | none => cases hx'
            | some h' =>
              simp at q
              refine ⟨k, o, o', d, es, es', ?_⟩
              cases h' with
              | false => exact .inl ⟨⟨rfl, rfl, rfl⟩, hu, hx', hk, hd9, q⟩
              | true => exact .inr ⟨⟨rfl, rfl, rfl⟩, hu, hx', hk, hd9, q⟩
theorem rd_joined_folder (n : Nat) (avs hd Q E) (h : S_joined_folder (n + 1) avs hd Q E) : t_joined_folder (S_joined n) (fnEnds false Q) ⟨initG ["lower", "upper", "depth", "told", "name", "mark"] avs, hd⟩ := by
  obtain ⟨k, o, o', d, es, es', h', rfl, hu, hl, hk, hd9, q⟩ := h
  cases hu with
  | mark k _ _ _ o9 rs nm f =>
    cases hl with
    | mark _ _ _ _ o9' rs' nm' f' =>
      have bl := few4 rs' nm'
      have l4 := few4 rs nm
      simp only [t_joined_folder]
      refine sq_of (fun s => s = ⟨[.v (ndD (.fold o' es' (some h'))), .v (ndD (.fold o es (some false))), .v (nD d), .m (dicD false (dicE es')), .no, .no], hd⟩) ?_ fun N hN => ?_
      rotate_left
      · simp
        rw [merge_uniq rs'.uniq]
        exact hN _ rfl
      rintro s rfl
      refine sq_of (fun s => ∃ L S3 S4, s = ⟨[.v (ndD (.fold o' es' (some h'))), .v (ndD (.fold o es (some false))), .v (nD d), .m (dicD false (dicE L)), S3, S4], hd⟩ ∧ Upto (fun m x => some (join x m)) es' es es.length L) ?_ fun N hN => ?_
      · rintro s ⟨L, S3, S4, rfl, U⟩
        simp
        refine ⟨by simp [sizeLine], ?_⟩
        rw [U.sort_join rs' rs, ← ndD_mark]
        rw [join_on_fold] at q
        exact q
      · simp
        rw [esD_map]
        refine fRun_inv (fun i s => ∃ L S3 S4, s = ⟨[.v (ndD (.fold o' es' (some h'))), .v (ndD (.fold o es (some false))), .v (nD d), .m (dicD false (dicE L)), S3, S4], hd⟩ ∧ Upto (fun m x => some (join x m)) es' es i L) ?_ ?_ ⟨_, _, _, rfl, Upto.zero rs'.uniq⟩
        · rintro i dd s N hi ⟨L, S3, S4, rfl, U⟩ hN
          obtain ⟨nn, m, e1, rfl⟩ := ent_at hi
          have lh := U.here rs.uniq e1
          have hs : (dicE L).length < sizeLine := by
            have := U.len
            have hi := (List.getElem?_eq_some_iff.mp e1).1
            rw [dicE_len]; simp only [sizeLine]; omega
          have fm := f _ (get_mem (mem_get rs.uniq (List.mem_of_getElem? e1)))
          simp [entD]
          refine ⟨_, _, ⟨rfl, rfl⟩, _, _, rfl, rfl, ?_⟩
          simp
          refine ⟨.inl ⟨_, rfl⟩, .inl ⟨dicE L, rfl, nD (d + 1), by simp [nD], ?_⟩⟩
          simp [S_joined]
          refine ⟨k, d + 1, get L nn, m, ⟨rfl, rfl, rfl⟩, fm, by rw [lh]; exact FitO.get f' nn, by omega, by omega, ?_⟩
          show keyFits false _ = true ∧ _ < sizeLine ∧ N _
          exact ⟨rfl, hs, hN _ ⟨put nn (join (get L nn) m) L, _, _, by rw [ins_dicE], U.put rs.uniq e1 (by rw [lh])⟩⟩
        · rintro s ⟨L, S3, S4, rfl, U⟩
          rw [List.length_map] at U
          exact hN _ ⟨L, S3, S4, rfl, U⟩
def S_raw_behind : FSpec := fun avs hd Q E => ∃ (k : Nat) (x u : Nd), avs = [.d (ndD x), .d (ndD u)] ∧ Fit true k u ∧ Fit true k x ∧ k ≤ 6 ∧ cnt (join (some x) u) ≤ 200 ∧ Q (ndD (join (some x) u)) hd
theorem rd_raw_behind (avs hd Q E) (h : S_raw_behind avs hd Q E) : t_raw_behind S_check_marks (S_joined 6) (fnEnds false Q) ⟨initG ["lower", "upper"] avs, hd⟩ := by
  obtain ⟨k, x, u, rfl, hu, hx, hk, hc, q⟩ := h
  simp only [t_raw_behind]
  simp [S_joined, S_check_marks, S_check_many]
  exact ⟨k, 0, some x, u, ⟨rfl, rfl, rfl⟩, hu, hx, hk, by omega, _, rfl, hc, q⟩
def S_one_behind : FSpec := fun avs hd Q E => ∃ (k : Nat) (x u : Nd), avs = [.d (ndD x), .d (ndD u)] ∧ Fit true k u ∧ Fit true k x ∧ k ≤ 6 ∧ isF u = true ∧ isF x = true ∧ cnt u ≤ 200 ∧ cnt x ≤ 200 ∧ cnt (join (some x) u) ≤ 200 ∧ Q (ndD (join (some x) u)) hd
theorem rd_one_behind (avs hd Q E) (h : S_one_behind avs hd Q E) : t_one_behind S_check_layer S_raw_behind (fnEnds false Q) ⟨initG ["lower", "upper"] avs, hd⟩ := by
  obtain ⟨k, x, u, rfl, hu, hx, hk, f1, f2, c1, c2, hc, q⟩ := h
  simp only [t_one_behind]
  simp [S_check_layer, S_raw_behind]
  exact ⟨k, x, rfl, hx, by omega, c2, f2, k, u, rfl, hu, by omega, c1, f1, k, x, u, ⟨rfl, rfl⟩, hu, hx, hk, hc, q⟩
end Lw
end
section
set_option Elab.async false
set_option linter.all false
set_option maxRecDepth 100000
set_option maxHeartbeats 4000000
/-! LH: readings: the same by _law_is. -/
namespace Lw
open PySem PySem.Spec PyProof.Rows L2 PD
variable [TB]
inductive Shp : Nat → PyData → Prop
  | flat {k : Nat} {d : PyData} : FlatS d → Shp k d
  | tup {k : Nat} {ds : List PyData} : ds.length ≤ 1000 → (∀ d ∈ ds, Shp k d) → Shp (k + 1) (.tuple ds)
  | lst {k : Nat} {ds : List PyData} : ds.length ≤ 1000 → (∀ d ∈ ds, Shp k d) → Shp (k + 1) (.list ds)
def S_is (n : Nat) : FSpec := fun avs hd Q E => ∃ d : PyData, avs = [.d d, .d d] ∧ Shp n d ∧ Q (.bool true) hd
theorem zip_self (ds : List PyData) : zipD ds ds = ds.map fun d => pairD d d := by
  unfold zipD
  rw [List.zip_eq_zipWith, List.zipWith_self, List.map_map]; rfl
theorem repr_flat {d : PyData} (h : FlatS d) : reprD [d] = some (.str (std d).shown) := if_pos (okShow_flat h)
theorem rd__law_is (F : FSpec) (n : Nat) (hF : ∀ m d hd Q E, n = m + 1 → Shp m d → Q (.bool true) hd → F [.d d, .d d] hd Q E) (avs hd Q E) (h : S_is n avs hd Q E) : t__law_is F (fnEnds false Q) ⟨initG ["came", "due", "one", "other"] avs, hd⟩ := by
  obtain ⟨d, rfl, hs, q⟩ := h
  simp only [t__law_is]
  cases hs with
  | flat f =>
    have r := repr_flat f
    cases f with
    | none => simpa using q
    | bool b => simp [r]; exact q
    | int i h => simp [r]; exact q
    | str x h =>
      have z : isNone (PyData.str x) = false := rfl
      simp [r, z]; exact q
  | @tup k ds hl hds =>
    simp
    refine ⟨ds, ds, ⟨rfl, rfl⟩, ?_⟩
    rw [zip_self]
    refine ⟨by simp only [sizeLine, List.length_map]; omega, cRun_of (fun d => pairD d d) (fun _ => .bool true) ds (fun d hd' Y y => ?_) _ _ ⟨_, allD_map (fun _ => true) ds, by rw [List.all_eq_true.mpr fun _ _ => rfl]; exact q⟩⟩
    simp
    exact ⟨_, _, ⟨rfl, rfl⟩, _, _, rfl, rfl, hF k d _ _ _ rfl (hds d hd') y⟩
  | @lst k ds hl hds =>
    simp
    refine ⟨ds, ds, ⟨rfl, rfl⟩, ?_⟩
    rw [zip_self]
    refine ⟨by simp only [sizeLine, List.length_map]; omega, cRun_of (fun d => pairD d d) (fun _ => .bool true) ds (fun d hd' Y y => ?_) _ _ ⟨_, allD_map (fun _ => true) ds, by rw [List.all_eq_true.mpr fun _ _ => rfl]; exact q⟩⟩
    simp
    exact ⟨_, _, ⟨rfl, rfl⟩, _, _, rfl, rfl, hF k d _ _ _ rfl (hds d hd') y⟩
theorem Shp.le {k k' : Nat} {d : PyData} (h : Shp k d) (l : k ≤ k') : Shp k' d := by
  induction h generalizing k' with
  | flat f => exact .flat f
  | tup hl _ ih =>
    obtain ⟨j, rfl⟩ : ∃ j, k' = j + 1 := ⟨k' - 1, by omega⟩
    exact .tup hl fun d hd => ih d hd (by omega)
  | lst hl _ ih =>
    obtain ⟨j, rfl⟩ : ∃ j, k' = j + 1 := ⟨k' - 1, by omega⟩
    exact .lst hl fun d hd => ih d hd (by omega)
theorem shp_leaf {l : Lf} (h : LfOk l) (k : Nat) : Shp (k + 1) (lfD l) := by
  cases l with
  | file x m =>
    refine .tup (by simp) fun d hd => .flat ?_
    rcases List.mem_cons.mp hd with e | hd
    · rw [e]; exact file_flat
    · rcases List.mem_cons.mp hd with e | hd
      · rw [e]; exact txt_flat h.1
      · rw [List.mem_singleton.mp hd]; exact flat_int h.2
  | link x =>
    refine .tup (by simp) fun d hd => .flat ?_
    rcases List.mem_cons.mp hd with e | hd
    · rw [e]; exact link_flat
    · rw [List.mem_singleton.mp hd]; exact txt_flat h.1
theorem shp_es {es : Es} {k : Nat} (l4 : es.length ≤ 4) (n : ∀ p ∈ es, isName p.1 = true) (h : ∀ p ∈ es, Shp k (ndD p.2)) : Shp (k + 2) (.tuple (esD es)) := by
  refine .tup (by rw [esD_len]; omega) fun d hd => ?_
  rw [esD_map] at hd
  obtain ⟨p, hp, rfl⟩ := List.mem_map.mp hd
  refine .tup (by simp) fun d hd => ?_
  rcases List.mem_cons.mp hd with e | hd
  · rw [e]; exact .flat (name_flat (n p hp))
  · rw [List.mem_singleton.mp hd]; exact h p hp
theorem Fit.shp {b : Bool} {k : Nat} {m : Nd} (h : Fit b k m) : Shp (3 * k + 1) (ndD m) := by
  induction h with
  | gone k =>
    rw [ndD]
    exact .tup (by simp) fun d hd => by rw [List.mem_singleton.mp hd]; exact .flat gone_flat
  | leaf b k l h => rw [ndD]; exact shp_leaf h _
  | mark k o es h o9 r n _ ih =>
    have s := shp_es (few4 r n) n ih
    rw [ndD]
    refine .tup (by simp) fun d hd => ?_
    rcases List.mem_cons.mp hd with e | hd
    · rw [e]; exact .flat folder_flat
    · rcases List.mem_cons.mp hd with e | hd
      · rw [e]; exact .flat (flat_int o9)
      · rcases List.mem_cons.mp hd with e | hd
        · rw [e]; exact s
        · rw [List.mem_singleton.mp hd]; exact .flat (.bool h)
  | node k o es o9 r n _ ih =>
    have s := shp_es (few4 r n) n ih
    rw [ndD]
    refine .tup (by simp) fun d hd => ?_
    rcases List.mem_cons.mp hd with e | hd
    · rw [e]; exact .flat folder_flat
    · rcases List.mem_cons.mp hd with e | hd
      · rw [e]; exact .flat (flat_int o9)
      · rw [List.mem_singleton.mp hd]; exact s
end Lw
end
section
set_option Elab.async false
set_option linter.all false
set_option maxRecDepth 100000
set_option maxHeartbeats 4000000
/-! LI: readings: layers and trees that are drawn. -/
namespace Lw
open PySem PySem.Spec PyProof.Rows L2 PD
variable [TB]
def S__law_plain_one : FSpec := fun avs hd Q E => avs = [.hand] ∧ HandD hd ∧ ∀ l hd', LfOk l → HandD hd' → Q (lfD l) hd'
theorem rd__law_plain_one (avs hd Q E) (h : S__law_plain_one avs hd Q E) : t__law_plain_one S__law_draw S__law_any (fnEnds false Q) ⟨initG ["hand"] avs, hd⟩ := by
  obtain ⟨rfl, hh, q⟩ := h
  simp only [t__law_plain_one]
  simp [S__law_draw, S__law_any]
  refine ⟨4, rfl, by omega, by omega, hh, fun v hd' hv hh' => ?_⟩
  refine ⟨_, rfl, ?_⟩
  by_cases z : v = 0
  · exact .inr ⟨by simp [nD, z], by simp [sizeLine], hh', fun hd2 h2 => ⟨by simp [sizeLine], q (.link "a") hd2 ⟨by decide, by decide⟩ h2⟩, fun hd2 h2 => ⟨by simp [sizeLine], q (.link "b/c") hd2 ⟨by decide, by decide⟩ h2⟩⟩
  · have key : ∀ x : Str, isTxt x = true → ∀ hd2, HandD hd2 → ∃ n : Nat, (2 : Int) = (n : Int) ∧ 0 < n ∧ n ≤ 1000 ∧ HandD hd2 ∧ ∀ (v : Nat) (hd3 : List PyData), v < n → HandD hd3 → 3 ≤ sizeLine ∧ Q (PyData.tuple [PyData.str "file", PyData.str x, nD v]) hd3 := fun x hx hd2 h2 =>
      ⟨2, rfl, by omega, by omega, h2, fun v hd3 hv h3 => ⟨by simp [sizeLine], q (.file x v) hd3 ⟨hx, by omega⟩ h3⟩⟩
    exact .inl ⟨by simp [nD, z], by simp [sizeLine], hh', key "" (by decide), key "x" (by decide), key "yy" (by decide)⟩
theorem name_lt : ∀ i, i < 4 → ∀ x ∈ names4.take i, ∀ y, names4[i]? = some y → slt x y := by
  intro i hi x hx y hy
  have : (i = 0 ∨ i = 1) ∨ (i = 2 ∨ i = 3) := by omega
  rcases this with (rfl | rfl) | (rfl | rfl)
  · cases hx
  all_goals
    simp [names4] at hx hy
    subst hy
  · subst hx; decide
  · rcases hx with rfl | rfl <;> decide
  · rcases hx with rfl | rfl | rfl <;> decide
theorem name_is : ∀ i, i < 4 → ∀ y, names4[i]? = some y → isName y = true := by
  intro i hi y hy
  have : (i = 0 ∨ i = 1) ∨ (i = 2 ∨ i = 3) := by omega
  rcases this with (rfl | rfl) | (rfl | rfl) <;>
  · simp [names4] at hy
    subst hy
    decide
theorem take_snoc {l : List Str} {i : Nat} {y : Str} (h : l[i]? = some y) : l.take (i + 1) = l.take i ++ [y] := by
  have hi := (List.getElem?_eq_some_iff.mp h).1
  have e := (List.getElem?_eq_some_iff.mp h).2
  rw [← e]
  exact (List.take_append_getElem hi).symm
/-- a row of names that is drawn, so far -/
structure Drawn (b : Bool) (k i : Nat) (es : Es) : Prop where
  rs : Rise es
  nm : ∀ p ∈ es, p.1 ∈ names4.take i
  ft : ∀ p ∈ es, Fit b k p.2
theorem Drawn.nil {b : Bool} {k : Nat} : Drawn b k 0 [] := ⟨List.Pairwise.nil, (fun _ h => nomatch h), (fun _ h => nomatch h)⟩
theorem Drawn.skip {b : Bool} {k i : Nat} {es : Es} (D : Drawn b k i es) {y : Str} (h : names4[i]? = some y) : Drawn b k (i + 1) es :=
  ⟨D.rs, fun p hp => by rw [take_snoc h]; exact List.mem_append_left _ (D.nm p hp), D.ft⟩
theorem Drawn.one {b : Bool} {k i : Nat} {es : Es} (D : Drawn b k i es) {y : Str} {m : Nd} (hi : i < 4) (h : names4[i]? = some y) (f : Fit b k m) : Drawn b k (i + 1) (es ++ [(y, m)]) := by
  refine ⟨List.pairwise_append.mpr ⟨D.rs, List.pairwise_singleton _ _, fun p hp q hq => ?_⟩, fun p hp => ?_, fun p hp => ?_⟩
  · rw [List.mem_singleton.mp hq]
    exact name_lt i hi p.1 (D.nm p hp) y h
  · rw [take_snoc h]
    rcases List.mem_append.mp hp with z | z
    · exact List.mem_append_left _ (D.nm p z)
    · rw [List.mem_singleton.mp z]; simp
  · rcases List.mem_append.mp hp with z | z
    · exact D.ft p z
    · rw [List.mem_singleton.mp z]; exact f
theorem Drawn.name {b : Bool} {k i : Nat} {es : Es} (D : Drawn b k i es) : ∀ p ∈ es, isName p.1 = true := fun p hp => by
  have h := (List.take_sublist i names4).subset (D.nm p hp)
  obtain ⟨j, hj⟩ := List.getElem?_of_mem h
  have hj4 : j < 4 := (List.getElem?_eq_some_iff.mp hj).1
  exact name_is j hj4 _ hj
def S__law_mark (n : Nat) : FSpec := fun avs hd Q E => ∃ deep : Nat, avs = [.hand, .d (.int (deep : Int))] ∧ deep ≤ n ∧ HandD hd ∧ ∀ m hd', Fit true deep m → HandD hd' → Q (ndD m) hd'
def S__law_layer (n : Nat) : FSpec := fun avs hd Q E => ∃ deep often : Nat, avs = [.hand, .d (.int (deep : Int)), .d (.int (often : Int))] ∧ deep < n ∧ 0 < often ∧ often ≤ 1000 ∧ HandD hd ∧ ∀ m hd', Fit true (deep + 1) m → isF m = true → HandD hd' → Q (ndD m) hd'
theorem rd__law_mark (n : Nat) (avs hd Q E) (h : S__law_mark n avs hd Q E) : t__law_mark S__law_draw S__law_plain_one (S__law_layer n) (fnEnds false Q) ⟨initG ["hand", "deep", "kind"] avs, hd⟩ := by
  obtain ⟨deep, rfl, hn, hh, q⟩ := h
  simp only [t__law_mark]
  simp [S__law_draw, S__law_plain_one, S__law_layer]
  refine ⟨6, rfl, by omega, by omega, hh, fun v hd' hv hh' => ?_⟩
  simp [nD]
  by_cases v0 : v = 0
  · subst v0
    have := q .gone hd' (.gone _) hh'
    rw [ndD_gone] at this
    simpa [sizeLine] using this
  · refine .inl ⟨v0, ?_⟩
    have plain : HandD hd' ∧ ∀ (l : Lf) (hd' : List PyData), LfOk l → HandD hd' → Q (lfD l) hd' := ⟨hh', fun l hd2 hl h2 => by
      have := q (.leaf l) hd2 (.leaf _ _ _ hl) h2
      rwa [ndD_leaf] at this⟩
    by_cases v3 : (3 : Int) ≤ (v : Int)
    · refine .inl ⟨v3, ?_⟩
      by_cases d0 : deep = 0
      · exact .inr ⟨d0, plain⟩
      · exact .inl ⟨d0, deep - 1, 3, ⟨by omega, rfl⟩, by omega, by omega, by omega, hh', fun m hd2 hm _ h2 => q m hd2 (by rwa [show deep - 1 + 1 = deep by omega] at hm) h2⟩
    · exact .inr ⟨by omega, plain⟩
theorem rd__law_layer (n : Nat) (avs hd Q E) (h : S__law_layer (n + 1) avs hd Q E) : t__law_layer S__law_draw (S__law_mark n) (fnEnds false Q) ⟨initG ["hand", "deep", "often", "some", "name"] avs, hd⟩ := by
  obtain ⟨deep, often, rfl, hn, o0, o1, hh, q⟩ := h
  simp only [t__law_layer]
  refine sq_of (fun s => s = ⟨[.h, .v (.int (deep : Int)), .v (.int (often : Int)), .m (.list []), .no], hd⟩) ?_ fun N hN => ?_
  rotate_left
  · simp
    exact hN _ rfl
  rintro s rfl
  refine sq_of (fun s => ∃ es S4 hd', s = ⟨[.h, .v (.int (deep : Int)), .v (.int (often : Int)), .m (.list (esD es)), S4], hd'⟩ ∧ HandD hd' ∧ Drawn true deep 3 es) ?_ fun N hN => ?_
  · rintro s ⟨es, S4, hd', rfl, hh', D⟩
    simp [S__law_draw]
    refine ⟨3, rfl, by omega, by omega, hh', fun v hd2 hv h2 => ⟨often, rfl, o0, o1, h2, fun v' hd3 hv' h3 => ⟨_, eq_nDD v' 0, by simp [sizeLine], ?_⟩⟩⟩
    have := q (.fold v es (some (decide (v' = 0)))) hd3 (.mark _ _ _ _ (by omega) D.rs D.name D.ft) rfl h3
    rwa [ndD_mark] at this
  · simp
    refine ⟨by simp [sizeLine], ?_⟩
    show fRun _ _ _ ((names4.take 3).map PyData.str) _
    refine fRun_inv (fun i s => ∃ es S4 hd', s = ⟨[.h, .v (.int (deep : Int)), .v (.int (often : Int)), .m (.list (esD es)), S4], hd'⟩ ∧ HandD hd' ∧ Drawn true deep i es) ?_ ?_ ⟨[], .no, hd, by rw [esD_nil], hh, Drawn.nil⟩
    · rintro i d s N hi ⟨es, S4, hd', rfl, hh', D⟩ hN
      have hi4 : i < 4 := by
        have := (List.getElem?_eq_some_iff.mp hi).1
        have e : ((names4.take 3).map PyData.str).length = 3 := rfl
        omega
      obtain ⟨y, hy, rfl⟩ : ∃ y, names4[i]? = some y ∧ d = .str y := by
        rw [List.getElem?_map] at hi
        cases e : (names4.take 3)[i]? with
        | none => rw [e] at hi; cases hi
        | some y =>
          rw [e] at hi
          refine ⟨y, ?_, (Option.some.inj hi).symm⟩
          rw [List.getElem?_take] at e
          split at e
          · exact e
          · cases e
      have l4 := few4 D.rs D.name
      simp [S__law_draw]
      refine ⟨2, rfl, by omega, by omega, hh', fun v hd2 hv h2 => ⟨_, eq_nDD v 0, ?_⟩⟩
      by_cases v0 : v = 0
      · refine .inr ⟨by simp [v0], ?_⟩
        simp [S__law_mark]
        exact ⟨deep, rfl, by omega, h2, fun m hd3 hm h3 => ⟨by simp [sizeLine], by simp only [sizeLine]; omega, hN _ ⟨es ++ [(y, m)], _, _, by rw [esD_map, esD_map, List.map_append]; rfl, h3, D.one hi4 hy hm⟩⟩⟩
      · exact .inl ⟨by simp [v0], hN _ ⟨es, _, _, rfl, h2, D.skip hy⟩⟩
    · rintro s ⟨es, S4, hd', rfl, hh', D⟩
      exact hN _ ⟨es, S4, hd', rfl, hh', D⟩
def S__law_node (n : Nat) : FSpec := fun avs hd Q E => ∃ deep : Nat, avs = [.hand, .d (.int (deep : Int))] ∧ deep ≤ n ∧ HandD hd ∧ ∀ m hd', Fit false deep m → HandD hd' → Q (ndD m) hd'
def S__law_tree (n : Nat) : FSpec := fun avs hd Q E => ∃ deep : Nat, avs = [.hand, .d (.int (deep : Int))] ∧ deep < n ∧ HandD hd ∧ ∀ m hd', Fit false (deep + 1) m → isF m = true → HandD hd' → Q (ndD m) hd'
theorem rd__law_node (n : Nat) (avs hd Q E) (h : S__law_node n avs hd Q E) : t__law_node S__law_draw S__law_plain_one (S__law_tree n) (fnEnds false Q) ⟨initG ["hand", "deep"] avs, hd⟩ := by
  obtain ⟨deep, rfl, hn, hh, q⟩ := h
  simp only [t__law_node]
  simp [S__law_draw, S__law_plain_one, S__law_tree]
  have plain : ∀ hd', HandD hd' → HandD hd' ∧ ∀ (l : Lf) (hd' : List PyData), LfOk l → HandD hd' → Q (lfD l) hd' := fun hd' hh' => ⟨hh', fun l hd2 hl h2 => by
    have := q (.leaf l) hd2 (.leaf _ _ _ hl) h2
    rwa [ndD_leaf] at this⟩
  by_cases d0 : deep = 0
  · exact .inr ⟨d0, plain hd hh⟩
  · refine .inl ⟨d0, 3, rfl, by omega, by omega, hh, fun v hd' hv hh' => ⟨_, eq_nDD v 0, ?_⟩⟩
    by_cases v0 : v = 0
    · exact .inr ⟨by simp [v0], plain hd' hh'⟩
    · exact .inl ⟨by simp [v0], deep - 1, by omega, by omega, hh', fun m hd2 hm _ h2 => q m hd2 (by rwa [show deep - 1 + 1 = deep by omega] at hm) h2⟩
theorem rd__law_tree (n : Nat) (avs hd Q E) (h : S__law_tree (n + 1) avs hd Q E) : t__law_tree S__law_draw (S__law_node n) (fnEnds false Q) ⟨initG ["hand", "deep", "some", "name"] avs, hd⟩ := by
  obtain ⟨deep, rfl, hn, hh, q⟩ := h
  simp only [t__law_tree]
  refine sq_of (fun s => s = ⟨[.h, .v (.int (deep : Int)), .m (.list []), .no], hd⟩) ?_ fun N hN => ?_
  rotate_left
  · simp
    exact hN _ rfl
  rintro s rfl
  refine sq_of (fun s => ∃ es S4 hd', s = ⟨[.h, .v (.int (deep : Int)), .m (.list (esD es)), S4], hd'⟩ ∧ HandD hd' ∧ Drawn false deep 4 es) ?_ fun N hN => ?_
  · rintro s ⟨es, S4, hd', rfl, hh', D⟩
    simp [S__law_draw]
    refine ⟨3, rfl, by omega, by omega, hh', fun v hd2 hv h2 => ⟨by simp [sizeLine], ?_⟩⟩
    have := q (.fold v es none) hd2 (.node _ _ _ (by omega) D.rs D.name D.ft) rfl h2
    rwa [ndD_node] at this
  · simp
    refine ⟨by simp [sizeLine], ?_⟩
    show fRun _ _ _ (names4.map PyData.str) _
    refine fRun_inv (fun i s => ∃ es S4 hd', s = ⟨[.h, .v (.int (deep : Int)), .m (.list (esD es)), S4], hd'⟩ ∧ HandD hd' ∧ Drawn false deep i es) ?_ ?_ ⟨[], .no, hd, by rw [esD_nil], hh, Drawn.nil⟩
    · rintro i d s N hi ⟨es, S4, hd', rfl, hh', D⟩ hN
      have hi4 : i < 4 := by
        have := (List.getElem?_eq_some_iff.mp hi).1
        exact this
      obtain ⟨y, hy, rfl⟩ : ∃ y, names4[i]? = some y ∧ d = .str y := by
        rw [List.getElem?_map] at hi
        cases e : names4[i]? with
        | none => rw [e] at hi; cases hi
        | some y =>
          rw [e] at hi
          exact ⟨y, rfl, (Option.some.inj hi).symm⟩
      have l4 := few4 D.rs D.name
      simp [S__law_draw]
      refine ⟨3, rfl, by omega, by omega, hh', fun v hd2 hv h2 => ⟨_, gt_nDD v 0, ?_⟩⟩
      by_cases v0 : 0 < v
      · refine .inr ⟨by simp [v0], ?_⟩
        simp [S__law_node]
        exact ⟨deep, rfl, by omega, h2, fun m hd3 hm h3 => ⟨by simp [sizeLine], by simp only [sizeLine]; omega, hN _ ⟨es ++ [(y, m)], _, _, by rw [esD_map, esD_map, List.map_append]; rfl, h3, D.one hi4 hy hm⟩⟩⟩
      · exact .inl ⟨by simp [v0], hN _ ⟨es, _, _, rfl, h2, D.skip hy⟩⟩
    · rintro s ⟨es, S4, hd', rfl, hh', D⟩
      exact hN _ ⟨es, S4, hd', rfl, hh', D⟩
end Lw
end
section
set_option Elab.async false
set_option linter.all false
set_option maxRecDepth 100000
set_option maxHeartbeats 4000000
/-! LJ: readings: the law's own made and behind. -/
namespace Lw
open PySem PySem.Spec PyProof.Rows L2 PD
variable [TB]
theorem okSort_dicE (L : Es) : okSort ((dicE L).map (·.1)) = true := by
  rw [keys_dicE]
  have := okSort_strs (L.map (·.1))
  rwa [List.map_map] at this
theorem sortD_dicE (L : Es) : sortD ((dicE L).map (·.1)) = (srtE L).map fun p => PyData.str p.1 := by rw [keys_dicE, sortD_names]
def S__law_by_names : FSpec := fun avs hd Q E => ∃ L : Es, avs = [.d (dicD false (dicE L))] ∧ Uniq L ∧ L.length ≤ 1000 ∧ Q (.tuple (esD (srtE L))) hd
theorem rd__law_by_names (avs hd Q E) (h : S__law_by_names avs hd Q E) : t__law_by_names (fnEnds false Q) ⟨initG ["found", "name"] avs, hd⟩ := by
  obtain ⟨L, rfl, u, hl, q⟩ := h
  have pl : (srtE L).Perm L := List.mergeSort_perm _ _
  simp only [t__law_by_names]
  simp
  refine ⟨_, ⟨okSort_dicE L, sortD_dicE L⟩, by rw [List.length_map, pl.length_eq]; simp only [sizeLine]; omega, cRun_of (fun p : Str × Nd => .str p.1) entD (srtE L) (fun p hp Y y => ?_) _ _ ?_⟩
  · have e : get L p.1 = some p.2 := mem_get u (pl.mem_iff.mp hp)
    have ex : ixD (dicD false (dicE L)) (.str p.1) = some (ndD p.2) := by
      show (if keyFits false (.str p.1) = true then lookD (.str p.1) (dicE L) else none) = _
      rw [if_pos (fits_str _), look_dicE, e]; rfl
    simp [ex]
    exact ⟨by simp [sizeLine], y⟩
  · rw [List.nil_append, ← esD_map]
    exact q
def S__law_made (n : Nat) : FSpec := fun avs hd Q E => ∃ (k : Nat) (u x : Nd), avs = [.d (ndD u), .d (ndD x)] ∧ Fit true k u ∧ k ≤ n ∧ Fit false k x ∧ isF u = true ∧ isF x = true ∧ ∀ r, act u (some x) = some r → Q (ndD r) hd
theorem act_blank {o : Nat} {es : Es} {h : Option Bool} {x : Option Nd} (e : below h x = []) : act (.fold o es h) (some (.fold 0 [] none)) = act (.fold o es h) x := by
  have e2 : below h (some (.fold 0 [] none)) = [] := by
    show (if h = some true then [] else []) = _
    split <;> rfl
  rw [act, act, e, e2]
theorem rd__law_made (n : Nat) (avs hd Q E) (h : S__law_made (n + 1) avs hd Q E) : t__law_made S__law_by_names (S__law_made n) (fnEnds false Q) ⟨initG ["layer", "tree", "found", "name", "mark", "here"] avs, hd⟩ := by
  obtain ⟨k, u, x, rfl, hu, hk, hx, hf, hg, q⟩ := h
  cases hx with
  | leaf => cases hg
  | node kx ox ex ox9 rx nx fx =>
  cases hu with
  | gone => cases hf
  | leaf => cases hf
  | mark k o es h o9 rs nm f =>
    have hx : FitO false (kx + 1) (some (.fold ox ex none)) := .node _ _ _ ox9 rx nx fx
    obtain ⟨b1, b2⟩ := hx.ris.below (some h)
    obtain ⟨c1, c2⟩ := FitO.belo hx (some h)
    generalize eb : below (some h) (some (.fold ox ex none)) = b at b1 b2 c1 c2
    have bl := few4 b1 c1
    have l4 := few4 rs nm
    have q := q _ rfl
    rw [eb] at q
    simp only [t__law_made]
    refine sq_of (fun s => s = ⟨[.v (ndD (.fold o es (some h))), .v (ndD (.fold ox ex none)), .m (dicD false (dicE b)), .no, .no, .no], hd⟩) ?_ fun N hN => ?_
    rotate_left
    · cases h with
      | true =>
        rw [below_true] at eb
        subst eb
        simp
        exact hN _ rfl
      | false =>
        have eb : ex = b := eb
        subst eb
        simp
        rw [merge_uniq rx.uniq]
        exact hN _ rfl
    rintro s rfl
    refine sq_of (fun s => ∃ L S3 S4 S5, s = ⟨[.v (ndD (.fold o es (some h))), .v (ndD (.fold ox ex none)), .m (dicD false (dicE L)), S3, S4, S5], hd⟩ ∧ Upto act b es es.length L) ?_ fun N hN => ?_
    · rintro s ⟨L, S3, S4, S5, rfl, U⟩
      have hL := U.len
      simp [S__law_by_names]
      refine ⟨L, rfl, U.uq, by omega, by simp [sizeLine], ?_⟩
      rw [U.srt_act b1 rs, ← ndD_node]
      exact q
    · simp
      rw [esD_map]
      refine fRun_inv (fun i s => ∃ L S3 S4 S5, s = ⟨[.v (ndD (.fold o es (some h))), .v (ndD (.fold ox ex none)), .m (dicD false (dicE L)), S3, S4, S5], hd⟩ ∧ Upto act b es i L) ?_ ?_ ⟨_, _, _, _, rfl, Upto.zero b1.uniq⟩
      · rintro i d s N hi ⟨L, S3, S4, S5, rfl, U⟩ hN
        obtain ⟨nn, m, e1, rfl⟩ := ent_at hi
        have lh := U.here rs.uniq e1
        simp [entD]
        refine ⟨_, _, ⟨rfl, rfl⟩, _, _, rfl, rfl, ?_⟩
        have hs : (dicE L).length < sizeLine := by
          have := U.len
          have hi := (List.getElem?_eq_some_iff.mp e1).1
          rw [dicE_len]; simp only [sizeLine]; omega
        cases m with
        | gone =>
          simp
          exact ⟨⟨_, rfl⟩, dicE L, rfl, hN _ ⟨drop nn L, _, _, _, by rw [drop_dicE], U.drop rs.uniq e1 rfl⟩⟩
        | leaf l =>
          simp
          show keyFits false _ = true ∧ _ < sizeLine ∧ N _
          exact ⟨rfl, hs, hN _ ⟨put nn (.leaf l) L, _, _, _, by rw [ins_dicE], U.put rs.uniq e1 rfl⟩⟩
        | fold o' es' h' =>
          have fm := f _ (get_mem (mem_get rs.uniq (List.mem_of_getElem? e1)))
          have blank : Fit true kx (.fold o' es' h') → Fit false kx (.fold 0 [] none) := fun z => by
            cases z with
            | mark j _ _ _ _ _ _ _ => exact .node _ _ _ (by omega) List.Pairwise.nil (fun _ z => nomatch z) (fun _ z => nomatch z)
          have bD : (PyData.tuple [.str "folder", .int 0, .tuple []]) = ndD (.fold 0 [] none) := by rw [ndD_node, esD_nil]; rfl
          have nf : (("none" : String) : Str) ≠ ("folder" : String) := by decide
          simp
          refine ⟨.inl ⟨_, rfl⟩, by simp [sizeLine], .inl ⟨dicE L, rfl, ?_⟩⟩
          rw [look_dicE, lh, bD]
          have low : ∀ (S5 : Sl), (below h' (get b nn) = []) → S__law_made n [AV.d (ndD (.fold o' es' h')), AV.d (ndD (.fold 0 [] none))] hd (fun d hd => keyFits false (.str nn) = true ∧ (dicE L).length < sizeLine ∧ N ⟨[Sl.v (ndD (.fold o es (some h))), Sl.v (ndD (.fold ox ex none)), Sl.m (dicD false (insD (.str nn) d (dicE L))), Sl.v (.str nn), Sl.v (ndD (.fold o' es' h')), S5], hd⟩) (fun _ _ => False) := fun S5 eb => by
            refine ⟨kx, _, _, rfl, fm, by omega, blank fm, rfl, rfl, fun r hr => ?_⟩
            rw [act_blank eb] at hr
            exact ⟨rfl, hs, hN _ ⟨put nn r L, _, _, _, by rw [ins_dicE], U.put rs.uniq e1 hr⟩⟩
          cases g : get b nn with
          | none =>
            rw [g] at low
            refine ⟨.str "none", ix_zero _ _, _, eqD_str _ _, .inl ⟨by rw [decide_eq_false nf], by simp [sizeLine], low _ rfl⟩⟩
          | some m' =>
            rw [g] at low
            refine ⟨_, ix0_nd m', _, eqD_str _ _, ?_⟩
            cases m' with
            | gone => exact .inl ⟨by simp, by simp [sizeLine], low _ rfl⟩
            | leaf l => exact .inl ⟨by simp, by simp [sizeLine], low _ rfl⟩
            | fold ob eb2 hb =>
              refine .inr ⟨by simp, kx, _, _, rfl, fm, by omega, ?_, rfl, rfl, fun r hr => ?_⟩
              · exact c2 _ (get_mem g)
              · show keyFits false _ = true ∧ _ < sizeLine ∧ N _
                exact ⟨rfl, hs, hN _ ⟨put nn r L, _, _, _, by rw [ins_dicE], U.put rs.uniq e1 (by rw [g]; exact hr)⟩⟩
      · rintro s ⟨L, S3, S4, S5, rfl, U⟩
        rw [List.length_map] at U
        exact hN _ ⟨L, S3, S4, S5, rfl, U⟩
def S__law_behind (n : Nat) : FSpec := fun avs hd Q E => ∃ (k : Nat) (x u : Nd), avs = [.d (ndD x), .d (ndD u)] ∧ Fit true k u ∧ Fit true k x ∧ k ≤ n ∧ isF u = true ∧ isF x = true ∧ Q (ndD (join (some x) u)) hd
theorem rd__law_behind (n : Nat) (avs hd Q E) (h : S__law_behind (n + 1) avs hd Q E) : t__law_behind S__law_by_names (S__law_behind n) (fnEnds false Q) ⟨initG ["lower", "upper", "found", "name", "mark", "here"] avs, hd⟩ := by
  obtain ⟨k, x, u, rfl, hu, hx, hk, hf, hg, q⟩ := h
  cases hx with
  | gone => cases hg
  | leaf => cases hg
  | mark k o' es' h' o9' rs' nm' f' =>
  cases hu with
  | gone => cases hf
  | leaf => cases hf
  | mark _ o es h o9 rs nm f =>
  have bl := few4 rs' nm'
  have l4 := few4 rs nm
  simp only [t__law_behind]
  cases h with
  | true =>
    simp at q ⊢
    exact q
  | false =>
    refine sq_of (fun s => s = ⟨[.v (ndD (.fold o' es' (some h'))), .v (ndD (.fold o es (some false))), .no, .no, .no, .no], hd⟩) ?_ fun N hN => ?_
    rotate_left
    · simp
      exact hN _ rfl
    rintro s rfl
    refine sq_of (fun s => s = ⟨[.v (ndD (.fold o' es' (some h'))), .v (ndD (.fold o es (some false))), .m (dicD false (dicE es')), .no, .no, .no], hd⟩) ?_ fun N hN => ?_
    rotate_left
    · simp
      rw [merge_uniq rs'.uniq]
      exact hN _ rfl
    rintro s rfl
    refine sq_of (fun s => ∃ L S3 S4 S5, s = ⟨[.v (ndD (.fold o' es' (some h'))), .v (ndD (.fold o es (some false))), .m (dicD false (dicE L)), S3, S4, S5], hd⟩ ∧ Upto (fun m x => some (join x m)) es' es es.length L) ?_ fun N hN => ?_
    · rintro s ⟨L, S3, S4, S5, rfl, U⟩
      have hL := U.len
      simp [S__law_by_names]
      refine ⟨L, rfl, U.uq, by omega, by simp [sizeLine], ?_⟩
      rw [U.srt_join rs' rs, ← ndD_mark]
      rw [join_on_fold] at q
      exact q
    · simp
      rw [esD_map]
      refine fRun_inv (fun i s => ∃ L S3 S4 S5, s = ⟨[.v (ndD (.fold o' es' (some h'))), .v (ndD (.fold o es (some false))), .m (dicD false (dicE L)), S3, S4, S5], hd⟩ ∧ Upto (fun m x => some (join x m)) es' es i L) ?_ ?_ ⟨_, _, _, _, rfl, Upto.zero rs'.uniq⟩
      · rintro i d s N hi ⟨L, S3, S4, S5, rfl, U⟩ hN
        obtain ⟨nn, m, e1, rfl⟩ := ent_at hi
        have lh := U.here rs.uniq e1
        have fm := f _ (get_mem (mem_get rs.uniq (List.mem_of_getElem? e1)))
        have hs : (dicE L).length < sizeLine := by
          have := U.len
          have hi := (List.getElem?_eq_some_iff.mp e1).1
          rw [dicE_len]; simp only [sizeLine]; omega
        have fin : ∀ r S5, join (get es' nn) m = r → keyFits false (.str nn) = true ∧ (dicE L).length < sizeLine ∧ N ⟨[.v (ndD (.fold o' es' (some h'))), .v (ndD (.fold o es (some false))), .m (dicD false (insD (.str nn) (ndD r) (dicE L))), .v (.str nn), .v (ndD m), S5], hd⟩ := fun r S5 e => ⟨rfl, hs, hN _ ⟨put nn r L, _, _, _, by rw [ins_dicE], U.put rs.uniq e1 (by rw [e])⟩⟩
        simp [entD]
        refine ⟨_, _, ⟨rfl, rfl⟩, _, _, rfl, rfl, ?_⟩
        refine ⟨.inl ⟨_, rfl⟩, .inl ⟨dicE L, rfl, ?_⟩⟩
        rw [look_dicE, lh, getD_map]
        cases m with
        | gone =>
          simp
          exact fin _ _ (join_gone _)
        | leaf l =>
          simp
          exact fin _ _ (join_leaf _ _)
        | fold om em hm =>
          cases hm with
          | none => cases fm
          | some hm =>
            have e3 : slD (ndD (.fold om em (some false))) none (some 3) = some (.tuple [.str "folder", nD om, .tuple (esD em)]) := by rw [ndD_mark]; rfl
            have eq1 : PyData.tuple ([.str "folder", nD om, .tuple (esD em)] ++ [.bool true]) = ndD (.fold om em (some true)) := by rw [ndD_mark]; rfl
            simp
            cases g : get es' nn with
            | none => exact .inr ⟨rfl, fin _ _ (by rw [g, join_none])⟩
            | some m' =>
              refine .inl ⟨isNone_nd m', ?_⟩
              cases hm with
              | true =>
                rw [if_pos rfl]
                exact fin _ _ (by rw [join_hides])
              | false =>
                rw [if_neg Bool.false_ne_true]
                refine ⟨_, ix0_nd m', _, eqD_str _ _, ?_⟩
                cases m' with
                | gone =>
                  refine .inl ⟨by simp, _, e3, by simp [sizeLine], _, add_tup (by simp), ?_⟩
                  rw [eq1]
                  exact fin _ _ (by rw [g, join_on_gone])
                | leaf l =>
                  refine .inl ⟨by simp, _, e3, by simp [sizeLine], _, add_tup (by simp), ?_⟩
                  rw [eq1]
                  exact fin _ _ (by rw [g, join_on_leaf])
                | fold oa ea ha =>
                  have fa : Fit true k (.fold oa ea ha) := f' _ (get_mem g)
                  refine .inr ⟨by simp, ?_⟩
                  simp only [S__law_behind]
                  exact ⟨k, _, _, rfl, fm, fa, by omega, rfl, rfl, fin _ _ (by rw [g])⟩
      · rintro s ⟨L, S3, S4, S5, rfl, U⟩
        rw [List.length_map] at U
        exact hN _ ⟨L, S3, S4, S5, rfl, U⟩
theorem add_lst {a b : List PyData} (h : a.length + b.length ≤ 1000) : addD (.list a) (.list b) = some (.list (a ++ b)) := if_pos (by simp only [sizeLine]; omega)
def S__law_trees : FSpec := fun avs hd Q E => avs = [.hand, .d (.int 4)] ∧ HandD hd ∧ ∀ (ts : List Nd) hd', ts.length = 5 → (∀ t ∈ ts, Fit false 3 t ∧ isF t = true) → HandD hd' → Q (.list (ts.map ndD)) hd'
theorem rd__law_trees (avs hd Q E) (h : S__law_trees avs hd Q E) : t__law_trees (S__law_tree 4) (fnEnds false Q) ⟨initG ["hand", "many", "lap"] avs, hd⟩ := by
  obtain ⟨rfl, hh, q⟩ := h
  simp only [t__law_trees]
  simp
  have e4 : rngD 0 4 = (List.range 4).map nD := rng_natE 4
  rw [e4]
  refine ⟨by simp [sizeLine], cRun_inv (fun i out hd => ∃ ts : List Nd, out = ts.map ndD ∧ ts.length = i ∧ (∀ t ∈ ts, Fit false 3 t ∧ isF t = true) ∧ HandD hd) (fun i d out hd Y M hi ⟨ts, eo, el, ex, hh⟩ y m => ?_) (fun out hd ⟨ts, eo, el, ex, hh⟩ => ?_) ⟨[], rfl, rfl, (fun x h => nomatch h), hh⟩⟩
  · simp [S__law_tree]
    refine ⟨2, rfl, by omega, hh, fun t hd2 ht hf hh2 => y _ _ ⟨ts ++ [t], by rw [eo, List.map_append]; rfl, by simp [el], fun x hx => ?_, hh2⟩⟩
    rcases List.mem_append.mp hx with z | z
    · exact ex x z
    · rw [List.mem_singleton.mp z]; exact ⟨ht, hf⟩
  · subst eo
    have el : ts.length = 4 := el
    refine ⟨by simp [sizeLine], by simp [sizeLine], _, add_lst (by simp [el]), ?_⟩
    have := q (ts ++ [.fold 0 [] none]) hd (by simp [el]) (fun t ht => ?_) hh
    · rw [List.map_append] at this
      have e : ([.fold 0 [] none] : List Nd).map ndD = [PyData.tuple [.str "folder", .int 0, .tuple []]] := by
        rw [List.map_singleton, ndD_node, esD_nil]; rfl
      rw [e] at this
      exact this
    · rcases List.mem_append.mp ht with z | z
      · exact ex t z
      · rw [List.mem_singleton.mp z]
        exact ⟨.node _ _ _ (by omega) List.Pairwise.nil (fun _ z => nomatch z) (fun _ z => nomatch z), rfl⟩
end Lw
end
section
set_option Elab.async false
set_option linter.all false
set_option maxRecDepth 100000
set_option maxHeartbeats 4000000
/-! LK: whole layers and trees: what they make, one behind another. -/
namespace Lw
open PySem PySem.Spec PyProof.Rows L2 PD
/-- a layer that is drawn or joined -/
structure La (m : Nd) : Prop where
  ft : Fit true 3 m
  fo : isF m = true
structure Tr (m : Nd) : Prop where
  ft : Fit false 3 m
  fo : isF m = true
theorem isF_eq {m : Nd} (h : isF m = true) : ∃ o es f, m = .fold o es f := by
  cases m with
  | fold o es f => exact ⟨o, es, f, rfl⟩
  | _ => cases h
theorem La.ex {m : Nd} (h : La m) : ∃ o es f, m = .fold o es (some f) := by
  obtain ⟨ft, fo⟩ := h
  cases ft with
  | gone => cases fo
  | leaf => cases fo
  | mark k o es f => exact ⟨o, es, f, rfl⟩
theorem bnd3 : bnd 3 = 85 := rfl
theorem La.cnt {m : Nd} (h : La m) : cnt m ≤ 85 := h.ft.cnt_le
theorem Tr.cnt {m : Nd} (h : Tr m) : cnt m ≤ 85 := h.ft.cnt_le
theorem isF_join {x : Option Nd} {u : Nd} (h : isF u = true) : isF (join x u) = true := by
  obtain ⟨o, es, f, rfl⟩ := isF_eq h
  cases f with
  | none => rw [join_node]; rfl
  | some f =>
    cases f with
    | true => rw [join_hides]; rfl
    | false =>
      cases x with
      | none => rw [join_none]; rfl
      | some l =>
        cases l with
        | gone => rw [join_on_gone]; rfl
        | leaf l => rw [join_on_leaf]; rfl
        | fold => rw [join_on_fold]; rfl
theorem La.join {x u : Nd} (hx : La x) (hu : La u) : La (join (some x) u) := ⟨join_fit u 3 (some x) hu.ft hx.ft, isF_join hu.fo⟩
/-- what a layer makes of a node -/
def mad (u x : Nd) : Nd := (act u (some x)).getD .gone
theorem La.mad_eq {u x : Nd} (hu : La u) : act u (some x) = some (mad u x) := by
  obtain ⟨o, es, f, rfl⟩ := hu.ex
  unfold mad
  rw [act]; rfl
theorem La.mad_tr {u x : Nd} (hu : La u) (hx : Tr x) : Tr (mad u x) := by
  have h := act_fit u 3 (some x) hu.ft hx.ft
  have e := hu.mad_eq (x := x)
  rw [e] at h
  refine ⟨h, ?_⟩
  obtain ⟨o, es, f, rfl⟩ := hu.ex
  rw [act] at e
  rw [← Option.some.inj e]; rfl
theorem mad_join {l u x : Nd} (hl : La l) (hu : La u) (hx : Tr x) : mad (join (some l) u) x = mad u (mad l x) := by
  have h : act (join (some l) u) (some x) = act u (act l (some x)) := act_join u (some l) (some x) hu.ft.lay hl.ft.ris hx.ft.ris
  rw [hl.mad_eq] at h
  show (act (join (some l) u) (some x)).getD .gone = _
  rw [h]; rfl
theorem join_three {a b c : Nd} (ha : La a) (hb : La b) (hc : La c) : join (some (join (some a) b)) c = join (some a) (join (some b) c) := join_assoc c (some a) b hc.ft.ris ha.ft.ris hb.ft.ris
def blankOf (o : Nat) : Nd := .fold o [] (some false)
theorem blank_la {o : Nat} (h : o ≤ 9) : La (blankOf o) := ⟨.mark _ _ _ _ h List.Pairwise.nil (fun _ z => nomatch z) (fun _ z => nomatch z), rfl⟩
theorem join_blank {o : Nat} {es : Es} {h : Bool} : join (some (.fold o es (some h))) (blankOf o) = .fold o es (some h) := by
  unfold blankOf
  rw [join_on_fold, joinL]; rfl
theorem blank_join {o : Nat} {es : Es} {h : Bool} (r : Rise es) : join (some (blankOf o)) (.fold o es (some h)) = .fold o es (some h) := by
  cases h with
  | true => rw [join_hides]
  | false =>
    unfold blankOf
    rw [join_on_fold]
    congr 1
    have r0 : Rise ([] : Es) := List.Pairwise.nil
    refine rise_ext (over_rise r0) r fun k => ?_
    rw [get_join r r0]
    cases get es k with
    | none => rfl
    | some m => show some (join none m) = some m; rw [join_none]
end Lw
end
section
set_option Elab.async false
set_option linter.all false
set_option maxRecDepth 100000
set_option maxHeartbeats 4000000
/-! K14A: the law's round. -/
namespace Lw
open PySem PySem.Spec PyProof.Rows L2 PD
variable [TB]
theorem call_behind {x u : Nd} {hd : List PyData} {Q : PyData → List PyData → Prop} {E} (hx : La x) (hu : La u) (q : Q (ndD (join (some x) u)) hd) : S_one_behind [.d (ndD x), .d (ndD u)] hd Q E :=
  ⟨3, x, u, rfl, hu.ft, hx.ft, by omega, hu.fo, hx.fo, by have := hu.cnt; omega, by have := hx.cnt; omega, by have := (hx.join hu).cnt; omega, q⟩
theorem call_made {u x : Nd} {hd : List PyData} {Q : PyData → List PyData → Prop} {E} (hu : La u) (hx : Tr x) (q : Q (ndD (mad u x)) hd) : S_made [.d (ndD u), .d (ndD x)] hd Q E :=
  ⟨3, u, x, mad u x, rfl, hu.ft, by omega, hx.ft, hu.fo, hx.fo, by have := hu.cnt; omega, by have := hx.cnt; omega, hu.mad_eq, by have := (hu.mad_tr hx).cnt; omega, q⟩
theorem call_lmade {u x : Nd} {hd : List PyData} {Q : PyData → List PyData → Prop} {E} (hu : La u) (hx : Tr x) (q : Q (ndD (mad u x)) hd) : S__law_made 12 [.d (ndD u), .d (ndD x)] hd Q E :=
  ⟨3, u, x, rfl, hu.ft, by omega, hx.ft, hu.fo, hx.fo, fun r hr => by rw [hu.mad_eq] at hr; cases hr; exact q⟩
theorem call_lbehind {x u : Nd} {hd : List PyData} {Q : PyData → List PyData → Prop} {E} (hx : La x) (hu : La u) (q : Q (ndD (join (some x) u)) hd) : S__law_behind 10 [.d (ndD x), .d (ndD u)] hd Q E :=
  ⟨3, x, u, rfl, hu.ft, hx.ft, by omega, hu.fo, hx.fo, q⟩
theorem call_is {d : PyData} {hd : List PyData} {Q : PyData → List PyData → Prop} {E} (h : Shp 13 d) (q : Q (.bool true) hd) : S_is 13 [.d d, .d d] hd Q E := ⟨d, rfl, h, q⟩
theorem shp_pair {a b : PyData} (ha : Shp 12 a) (hb : Shp 12 b) : Shp 13 (.list [a, b]) := .lst (by simp) fun d hd => by
  rcases List.mem_cons.mp hd with e | hd
  · rw [e]; exact ha
  · rw [List.mem_singleton.mp hd]; exact hb
theorem La.shp {m : Nd} (h : La m) : Shp 12 (ndD m) := h.ft.shp.le (by omega)
theorem Tr.shp {m : Nd} (h : Tr m) : Shp 12 (ndD m) := h.ft.shp.le (by omega)
theorem repr_nds (ms : List Nd) (h : ∀ m ∈ ms, La m) (hl : ms.length ≤ 500) : ∃ x, reprD [.list (ms.map ndD)] = some (.str x) ∧ ∃ y, reprD [.tuple (ms.map ndD)] = some (.str y) := by
  obtain ⟨a, b⟩ := okShow_nds (n := 85) (k := 3) ms (fun m hm => ⟨⟨_, (h m hm).ft⟩, (h m hm).cnt⟩) (by omega) (by omega) (by omega)
  exact ⟨_, if_pos a, _, if_pos b⟩
def S__law_is_right : FSpec := fun avs hd Q E => avs = [.hand] ∧ HandD hd ∧ ∀ hd', HandD hd' → Q (.bool true) hd'
theorem rd__law_is_right (avs hd Q E) (h : S__law_is_right avs hd Q E) : t__law_is_right S_made S_one_behind S__law_any (S_is 13) (S__law_layer 4) (S__law_made 12) (S__law_behind 10) S__law_trees (fnEnds false Q) ⟨initG ["hand", "lower", "upper", "third", "lap", "held_text", "told", "tree", "due_tree", "blank"] avs, hd⟩ := by
  obtain ⟨rfl, hh, q⟩ := h
  simp only [t__law_is_right]
  refine sq_of (fun s => ∃ l u t S4 hd', s = ⟨[.h, .v (ndD l), .v (ndD u), .v (ndD t), S4, .no, .no, .no, .no, .no], hd'⟩ ∧ La l ∧ La u ∧ La t ∧ HandD hd') ?_ fun N hN => ?_
  rotate_left
  · simp
    have e3 : rngD 0 3 = (List.range 3).map nD := rng_natE 3
    rw [e3]
    refine ⟨by simp [sizeLine], cRun_inv (fun i out hd => ∃ ts : List Nd, out = ts.map ndD ∧ ts.length = i ∧ (∀ t ∈ ts, La t) ∧ HandD hd) (fun i d out hd Y M hi ⟨ts, eo, el, ex, hh⟩ y m => ?_) (fun out hd ⟨ts, eo, el, ex, hh⟩ => ?_) ⟨[], rfl, rfl, (fun x h => nomatch h), hh⟩⟩
    · have key : ∀ often : Nat, 0 < often → often ≤ 1000 → ∀ hd, HandD hd → S__law_layer 4 [.hand, .d (.int 2), .d (.int (often : Int))] hd Y fun _ _ => False := fun often o0 o1 hd hh => ⟨2, often, rfl, by omega, o0, o1, hh, fun m hd2 hm hf hh2 => y _ _ ⟨ts ++ [m], by rw [eo, List.map_append]; rfl, by simp [el], fun x hx => (List.mem_append.mp hx).elim (ex x) fun z => by rw [List.mem_singleton.mp z]; exact ⟨hm, hf⟩, hh2⟩⟩
      simp [S__law_any]
      exact ⟨by simp [sizeLine], hh, fun hd hh => key 2 (by omega) (by omega) hd hh, fun hd hh => key 4 (by omega) (by omega) hd hh, fun hd hh => key 9 (by omega) (by omega) hd hh⟩
    · subst eo
      have el : ts.length = 3 := el
      match ts, el with
      | [l, u, t], _ =>
        simp
        exact ⟨_, _, ⟨rfl, rfl⟩, _, _, rfl, _, _, rfl, rfl, hN _ ⟨l, u, t, _, hd, rfl, ex l (by simp), ex u (by simp), ex t (by simp), hh⟩⟩
  rintro s ⟨l, u, t, S4, hd, rfl, hl, hu, ht, hh⟩
  obtain ⟨x, ex, _⟩ := repr_nds [l, u] (fun m hm => by
    rcases List.mem_cons.mp hm with e | hm
    · rw [e]; exact hl
    · rw [List.mem_singleton.mp hm]; exact hu) (by simp)
  have ex : reprD [.list [ndD l, ndD u]] = some (.str x) := ex
  have hT := hl.join hu
  refine sq_of (fun s => s = ⟨[.h, .v (ndD l), .v (ndD u), .v (ndD t), S4, .v (.str x), .v (ndD (join (some l) u)), .no, .no, .no], hd⟩) ?_ fun N hN => ?_
  rotate_left
  · simp [ex]
    exact ⟨by simp [sizeLine], call_behind hl hu ⟨_, _, ⟨rfl, rfl⟩, hN _ rfl⟩⟩
  rintro s rfl
  refine sq_of (fun s => s = ⟨[.h, .v (ndD l), .v (ndD u), .v (ndD t), S4, .v (.str x), .v (ndD (join (some l) u)), .no, .no, .no], hd⟩) ?_ fun N hN => ?_
  rotate_left
  · simp
    refine call_lbehind hl hu (call_is (hT.shp.le (by omega)) ?_)
    simp [ex]
    exact ⟨by simp [sizeLine], hN _ rfl⟩
  rintro s rfl
  refine sq_of (fun s => ∃ S7 S8 hd', s = ⟨[.h, .v (ndD l), .v (ndD u), .v (ndD t), S4, .v (.str x), .v (ndD (join (some l) u)), S7, S8, .no], hd'⟩ ∧ HandD hd') ?_ fun N hN => ?_
  rotate_left
  · simp
    refine ⟨rfl, hh, fun ts hd' h5 hts hh' => ?_⟩
    simp
    refine fRun_inv (fun i s => ∃ S7 S8 hd', s = ⟨[.h, .v (ndD l), .v (ndD u), .v (ndD t), S4, .v (.str x), .v (ndD (join (some l) u)), S7, S8, .no], hd'⟩ ∧ HandD hd') ?_ ?_ ⟨_, _, _, rfl, hh'⟩
    · rintro i d s N hi ⟨S7, S8, hd', rfl, hh'⟩ hN
      obtain ⟨b, hb, rfl⟩ : ∃ b, b ∈ ts ∧ d = ndD b := by
        have := List.mem_of_getElem? hi
        obtain ⟨b, hb, e⟩ := List.mem_map.mp this
        exact ⟨b, hb, e.symm⟩
      have hb : Tr b := ⟨(hts b hb).1, (hts b hb).2⟩
      simp
      refine call_lmade hl hb (call_lmade hu (hl.mad_tr hb) ?_)
      have hr := hu.mad_tr (hl.mad_tr hb)
      refine call_made hT hb ?_
      rw [mad_join hl hu hb]
      refine call_made hl hb (call_made hu (hl.mad_tr hb) ⟨by simp [sizeLine], call_is (shp_pair hr.shp hr.shp) ?_⟩)
      simp
      exact hN _ ⟨_, _, _, rfl, hh'⟩
    · rintro s ⟨S7, S8, hd', rfl, hh'⟩
      exact hN _ ⟨_, _, _, rfl, hh'⟩
  rintro s ⟨S7, S8, hd, rfl, hh⟩
  simp
  refine call_behind hT ht (call_behind hu ht (call_behind hl (hu.join ht) ?_))
  rw [join_three hl hu ht]
  refine ⟨_, (hl.join (hu.join ht)).ft.ne_self (by omega), .inl ⟨rfl, ?_⟩⟩
  obtain ⟨o, es, f, rfl⟩ := hl.ex
  have ho : o ≤ 9 := by
    cases hl.ft with
    | mark _ _ _ _ h _ _ _ => exact h
  have rs : Rise es := hl.ft.ris.rise
  have e : PyData.tuple [.str "folder", nD o, .tuple [], .bool false] = ndD (blankOf o) := by
    unfold blankOf
    rw [ndD_mark, esD_nil]
  refine ⟨_, ix1_fold _ _ _, by simp [sizeLine], ?_⟩
  rw [e]
  refine call_behind hl (blank_la ho) (call_behind (blank_la ho) hl ?_)
  rw [join_blank, blank_join rs]
  exact ⟨by simp [sizeLine], call_is (shp_pair hl.shp hl.shp) (q _ hh)⟩
end Lw
end
section
set_option Elab.async false
set_option linter.all false
set_option maxRecDepth 100000
set_option maxHeartbeats 4000000
open PySem PySem.Spec PyProof.Rows L2 PD
namespace Lw
def top (i : Nat) : Stmt := PySem.Challenge.pw_layerhouse_k14_whole_one_layer_behind_an.main.body.getD i (.Pass ⟨0, 0, 0, 0⟩)
abbrev s_is_integer : Stmt := top 1
abbrev N_is_integer : List Str := ["thing"]
abbrev P_is_integer : List Str := ["thing"]
theorem sc_is_integer : FnScope N_is_integer P_is_integer (defScope s_is_integer) := ⟨rfl, rfl, rfl, by decide +kernel, rfl, by decide +kernel, by decide +kernel⟩
abbrev s_is_within : Stmt := top 2
abbrev N_is_within : List Str := ["thing", "low", "high"]
abbrev P_is_within : List Str := ["thing", "low", "high"]
theorem sc_is_within : FnScope N_is_within P_is_within (defScope s_is_within) := ⟨rfl, rfl, rfl, by decide +kernel, rfl, by decide +kernel, by decide +kernel⟩
abbrev s_is_flag : Stmt := top 3
abbrev N_is_flag : List Str := ["thing"]
abbrev P_is_flag : List Str := ["thing"]
theorem sc_is_flag : FnScope N_is_flag P_is_flag (defScope s_is_flag) := ⟨rfl, rfl, rfl, by decide +kernel, rfl, by decide +kernel, by decide +kernel⟩
abbrev s_is_sized : Stmt := top 4
abbrev N_is_sized : List Str := ["thing", "low", "high"]
abbrev P_is_sized : List Str := ["thing", "low", "high"]
theorem sc_is_sized : FnScope N_is_sized P_is_sized (defScope s_is_sized) := ⟨rfl, rfl, rfl, by decide +kernel, rfl, by decide +kernel, by decide +kernel⟩
abbrev s_are_rising : Stmt := top 5
abbrev N_are_rising : List Str := ["things", "one", "other"]
abbrev P_are_rising : List Str := ["things"]
theorem sc_are_rising : FnScope N_are_rising P_are_rising (defScope s_are_rising) := ⟨rfl, rfl, rfl, by decide +kernel, rfl, by decide +kernel, by decide +kernel⟩
abbrev s_is_name : Stmt := top 22
abbrev N_is_name : List Str := ["thing", "sign"]
abbrev P_is_name : List Str := ["thing"]
theorem sc_is_name : FnScope N_is_name P_is_name (defScope s_is_name) := ⟨rfl, rfl, rfl, by decide +kernel, rfl, by decide +kernel, by decide +kernel⟩
abbrev s_is_text : Stmt := top 23
abbrev N_is_text : List Str := ["thing", "sign"]
abbrev P_is_text : List Str := ["thing"]
theorem sc_is_text : FnScope N_is_text P_is_text (defScope s_is_text) := ⟨rfl, rfl, rfl, by decide +kernel, rfl, by decide +kernel, by decide +kernel⟩
abbrev s_is_mode : Stmt := top 24
abbrev N_is_mode : List Str := ["thing"]
abbrev P_is_mode : List Str := ["thing"]
theorem sc_is_mode : FnScope N_is_mode P_is_mode (defScope s_is_mode) := ⟨rfl, rfl, rfl, by decide +kernel, rfl, by decide +kernel, by decide +kernel⟩
abbrev s_are_named : Stmt := top 25
abbrev N_are_named : List Str := ["thing", "pair"]
abbrev P_are_named : List Str := ["thing"]
theorem sc_are_named : FnScope N_are_named P_are_named (defScope s_are_named) := ⟨rfl, rfl, rfl, by decide +kernel, rfl, by decide +kernel, by decide +kernel⟩
abbrev s_is_small_node : Stmt := top 26
abbrev N_is_small_node : List Str := ["thing"]
abbrev P_is_small_node : List Str := ["thing"]
theorem sc_is_small_node : FnScope N_is_small_node P_is_small_node (defScope s_is_small_node) := ⟨rfl, rfl, rfl, by decide +kernel, rfl, by decide +kernel, by decide +kernel⟩
abbrev s_is_folder_node : Stmt := top 27
abbrev N_is_folder_node : List Str := ["thing"]
abbrev P_is_folder_node : List Str := ["thing"]
theorem sc_is_folder_node : FnScope N_is_folder_node P_is_folder_node (defScope s_is_folder_node) := ⟨rfl, rfl, rfl, by decide +kernel, rfl, by decide +kernel, by decide +kernel⟩
abbrev s_is_node : Stmt := top 28
abbrev N_is_node : List Str := ["thing", "count", "waiting", "node", "depth", "name", "inner"]
abbrev P_is_node : List Str := ["thing"]
theorem sc_is_node : FnScope N_is_node P_is_node (defScope s_is_node) := ⟨rfl, rfl, rfl, by decide +kernel, rfl, by decide +kernel, by decide +kernel⟩
abbrev s_is_tree : Stmt := top 29
abbrev N_is_tree : List Str := ["thing"]
abbrev P_is_tree : List Str := ["thing"]
theorem sc_is_tree : FnScope N_is_tree P_is_tree (defScope s_is_tree) := ⟨rfl, rfl, rfl, by decide +kernel, rfl, by decide +kernel, by decide +kernel⟩
abbrev s_check_tree : Stmt := top 30
abbrev N_check_tree : List Str := ["thing"]
abbrev P_check_tree : List Str := ["thing"]
theorem sc_check_tree : FnScope N_check_tree P_check_tree (defScope s_check_tree) := ⟨rfl, rfl, rfl, by decide +kernel, rfl, by decide +kernel, by decide +kernel⟩
abbrev s_kind_of : Stmt := top 31
abbrev N_kind_of : List Str := ["node"]
abbrev P_kind_of : List Str := ["node"]
theorem sc_kind_of : FnScope N_kind_of P_kind_of (defScope s_kind_of) := ⟨rfl, rfl, rfl, by decide +kernel, rfl, by decide +kernel, by decide +kernel⟩
abbrev s_nodes_in : Stmt := top 32
abbrev N_nodes_in : List Str := ["tree", "found", "waiting", "path", "node", "name", "inner"]
abbrev P_nodes_in : List Str := ["tree"]
theorem sc_nodes_in : FnScope N_nodes_in P_nodes_in (defScope s_nodes_in) := ⟨rfl, rfl, rfl, by decide +kernel, rfl, by decide +kernel, by decide +kernel⟩
abbrev s_is_folder_mark : Stmt := top 35
abbrev N_is_folder_mark : List Str := ["thing"]
abbrev P_is_folder_mark : List Str := ["thing"]
theorem sc_is_folder_mark : FnScope N_is_folder_mark P_is_folder_mark (defScope s_is_folder_mark) := ⟨rfl, rfl, rfl, by decide +kernel, rfl, by decide +kernel, by decide +kernel⟩
abbrev s_is_gone : Stmt := top 36
abbrev N_is_gone : List Str := ["thing"]
abbrev P_is_gone : List Str := ["thing"]
theorem sc_is_gone : FnScope N_is_gone P_is_gone (defScope s_is_gone) := ⟨rfl, rfl, rfl, by decide +kernel, rfl, by decide +kernel, by decide +kernel⟩
abbrev s_is_layer : Stmt := top 37
abbrev N_is_layer : List Str := ["thing", "count", "waiting", "mark", "depth", "name", "inner"]
abbrev P_is_layer : List Str := ["thing"]
theorem sc_is_layer : FnScope N_is_layer P_is_layer (defScope s_is_layer) := ⟨rfl, rfl, rfl, by decide +kernel, rfl, by decide +kernel, by decide +kernel⟩
abbrev s_check_layer : Stmt := top 38
abbrev N_check_layer : List Str := ["thing"]
abbrev P_check_layer : List Str := ["thing"]
theorem sc_check_layer : FnScope N_check_layer P_check_layer (defScope s_check_layer) := ⟨rfl, rfl, rfl, by decide +kernel, rfl, by decide +kernel, by decide +kernel⟩
abbrev s_made_folder : Stmt := top 39
abbrev N_made_folder : List Str := ["mark", "node", "lower", "name", "inner"]
abbrev P_made_folder : List Str := ["mark", "node"]
theorem sc_made_folder : FnScope N_made_folder P_made_folder (defScope s_made_folder) := ⟨rfl, rfl, rfl, by decide +kernel, rfl, by decide +kernel, by decide +kernel⟩
abbrev s_check_many : Stmt := top 40
abbrev N_check_many : List Str := ["tree"]
abbrev P_check_many : List Str := ["tree"]
theorem sc_check_many : FnScope N_check_many P_check_many (defScope s_check_many) := ⟨rfl, rfl, rfl, by decide +kernel, rfl, by decide +kernel, by decide +kernel⟩
abbrev s_raw_made : Stmt := top 41
abbrev N_raw_made : List Str := ["layer", "tree"]
abbrev P_raw_made : List Str := ["layer", "tree"]
theorem sc_raw_made : FnScope N_raw_made P_raw_made (defScope s_raw_made) := ⟨rfl, rfl, rfl, by decide +kernel, rfl, by decide +kernel, by decide +kernel⟩
abbrev s_made : Stmt := top 42
abbrev N_made : List Str := ["layer", "tree"]
abbrev P_made : List Str := ["layer", "tree"]
theorem sc_made : FnScope N_made P_made (defScope s_made) := ⟨rfl, rfl, rfl, by decide +kernel, rfl, by decide +kernel, by decide +kernel⟩
abbrev s_all_marks : Stmt := top 43
abbrev N_all_marks : List Str := ["layer", "found", "waiting", "path", "mark", "name", "inner"]
abbrev P_all_marks : List Str := ["layer"]
theorem sc_all_marks : FnScope N_all_marks P_all_marks (defScope s_all_marks) := ⟨rfl, rfl, rfl, by decide +kernel, rfl, by decide +kernel, by decide +kernel⟩
abbrev s_check_marks : Stmt := top 45
abbrev N_check_marks : List Str := ["layer"]
abbrev P_check_marks : List Str := ["layer"]
theorem sc_check_marks : FnScope N_check_marks P_check_marks (defScope s_check_marks) := ⟨rfl, rfl, rfl, by decide +kernel, rfl, by decide +kernel, by decide +kernel⟩
abbrev s_joined : Stmt := top 48
abbrev N_joined : List Str := ["lower", "upper", "depth"]
abbrev P_joined : List Str := ["lower", "upper", "depth"]
theorem sc_joined : FnScope N_joined P_joined (defScope s_joined) := ⟨rfl, rfl, rfl, by decide +kernel, rfl, by decide +kernel, by decide +kernel⟩
abbrev s_joined_folder : Stmt := top 47
abbrev N_joined_folder : List Str := ["lower", "upper", "depth", "told", "name", "mark"]
abbrev P_joined_folder : List Str := ["lower", "upper", "depth"]
theorem sc_joined_folder : FnScope N_joined_folder P_joined_folder (defScope s_joined_folder) := ⟨rfl, rfl, rfl, by decide +kernel, rfl, by decide +kernel, by decide +kernel⟩
abbrev s_raw_behind : Stmt := top 49
abbrev N_raw_behind : List Str := ["lower", "upper"]
abbrev P_raw_behind : List Str := ["lower", "upper"]
theorem sc_raw_behind : FnScope N_raw_behind P_raw_behind (defScope s_raw_behind) := ⟨rfl, rfl, rfl, by decide +kernel, rfl, by decide +kernel, by decide +kernel⟩
abbrev s_one_behind : Stmt := top 50
abbrev N_one_behind : List Str := ["lower", "upper"]
abbrev P_one_behind : List Str := ["lower", "upper"]
theorem sc_one_behind : FnScope N_one_behind P_one_behind (defScope s_one_behind) := ⟨rfl, rfl, rfl, by decide +kernel, rfl, by decide +kernel, by decide +kernel⟩
abbrev s__law_hand : Stmt := top 52
abbrev N__law_hand : List Str := ["script", "all_cells", "cell"]
abbrev P__law_hand : List Str := ["script"]
theorem sc__law_hand : FnScope N__law_hand P__law_hand (defScope s__law_hand) := ⟨rfl, rfl, rfl, by decide +kernel, rfl, by decide +kernel, by decide +kernel⟩
abbrev s__law_draw : Stmt := top 53
abbrev N__law_draw : List Str := ["hand", "many", "cell", "digit", "number"]
abbrev P__law_draw : List Str := ["hand", "many"]
theorem sc__law_draw : FnScope N__law_draw P__law_draw (defScope s__law_draw) := ⟨rfl, rfl, rfl, by decide +kernel, rfl, by decide +kernel, by decide +kernel⟩
abbrev s__law_any : Stmt := top 54
abbrev N__law_any : List Str := ["hand", "things"]
abbrev P__law_any : List Str := ["hand", "things"]
theorem sc__law_any : FnScope N__law_any P__law_any (defScope s__law_any) := ⟨rfl, rfl, rfl, by decide +kernel, rfl, by decide +kernel, by decide +kernel⟩
abbrev s__law_is : Stmt := top 55
abbrev N__law_is : List Str := ["came", "due", "one", "other"]
abbrev P__law_is : List Str := ["came", "due"]
theorem sc__law_is : FnScope N__law_is P__law_is (defScope s__law_is) := ⟨rfl, rfl, rfl, by decide +kernel, rfl, by decide +kernel, by decide +kernel⟩
abbrev s__law_plain_one : Stmt := top 56
abbrev N__law_plain_one : List Str := ["hand"]
abbrev P__law_plain_one : List Str := ["hand"]
theorem sc__law_plain_one : FnScope N__law_plain_one P__law_plain_one (defScope s__law_plain_one) := ⟨rfl, rfl, rfl, by decide +kernel, rfl, by decide +kernel, by decide +kernel⟩
abbrev s__law_layer : Stmt := top 58
abbrev N__law_layer : List Str := ["hand", "deep", "often", "some", "name"]
abbrev P__law_layer : List Str := ["hand", "deep", "often"]
theorem sc__law_layer : FnScope N__law_layer P__law_layer (defScope s__law_layer) := ⟨rfl, rfl, rfl, by decide +kernel, rfl, by decide +kernel, by decide +kernel⟩
abbrev s__law_mark : Stmt := top 57
abbrev N__law_mark : List Str := ["hand", "deep", "kind"]
abbrev P__law_mark : List Str := ["hand", "deep"]
theorem sc__law_mark : FnScope N__law_mark P__law_mark (defScope s__law_mark) := ⟨rfl, rfl, rfl, by decide +kernel, rfl, by decide +kernel, by decide +kernel⟩
abbrev s__law_tree : Stmt := top 60
abbrev N__law_tree : List Str := ["hand", "deep", "some", "name"]
abbrev P__law_tree : List Str := ["hand", "deep"]
theorem sc__law_tree : FnScope N__law_tree P__law_tree (defScope s__law_tree) := ⟨rfl, rfl, rfl, by decide +kernel, rfl, by decide +kernel, by decide +kernel⟩
abbrev s__law_node : Stmt := top 59
abbrev N__law_node : List Str := ["hand", "deep"]
abbrev P__law_node : List Str := ["hand", "deep"]
theorem sc__law_node : FnScope N__law_node P__law_node (defScope s__law_node) := ⟨rfl, rfl, rfl, by decide +kernel, rfl, by decide +kernel, by decide +kernel⟩
abbrev s__law_by_names : Stmt := top 61
abbrev N__law_by_names : List Str := ["found", "name"]
abbrev P__law_by_names : List Str := ["found"]
theorem sc__law_by_names : FnScope N__law_by_names P__law_by_names (defScope s__law_by_names) := ⟨rfl, rfl, rfl, by decide +kernel, rfl, by decide +kernel, by decide +kernel⟩
abbrev s__law_made : Stmt := top 62
abbrev N__law_made : List Str := ["layer", "tree", "found", "name", "mark", "here"]
abbrev P__law_made : List Str := ["layer", "tree"]
theorem sc__law_made : FnScope N__law_made P__law_made (defScope s__law_made) := ⟨rfl, rfl, rfl, by decide +kernel, rfl, by decide +kernel, by decide +kernel⟩
abbrev s__law_behind : Stmt := top 63
abbrev N__law_behind : List Str := ["lower", "upper", "found", "name", "mark", "here"]
abbrev P__law_behind : List Str := ["lower", "upper"]
theorem sc__law_behind : FnScope N__law_behind P__law_behind (defScope s__law_behind) := ⟨rfl, rfl, rfl, by decide +kernel, rfl, by decide +kernel, by decide +kernel⟩
abbrev s__law_trees : Stmt := top 64
abbrev N__law_trees : List Str := ["hand", "many", "lap"]
abbrev P__law_trees : List Str := ["hand", "many"]
theorem sc__law_trees : FnScope N__law_trees P__law_trees (defScope s__law_trees) := ⟨rfl, rfl, rfl, by decide +kernel, rfl, by decide +kernel, by decide +kernel⟩
abbrev s__law_is_right : Stmt := top 65
abbrev N__law_is_right : List Str := ["hand", "lower", "upper", "third", "lap", "held_text", "told", "tree", "due_tree", "blank"]
abbrev P__law_is_right : List Str := ["hand"]
theorem sc__law_is_right : FnScope N__law_is_right P__law_is_right (defScope s__law_is_right) := ⟨rfl, rfl, rfl, by decide +kernel, rfl, by decide +kernel, by decide +kernel⟩
abbrev s_law : Stmt := top 66
abbrev N_law : List Str := ["script", "hand", "lower", "upper", "due_here", "lap"]
abbrev P_law : List Str := ["script"]
theorem sc_law : FnScope N_law P_law (defScope s_law) := ⟨rfl, rfl, rfl, by decide +kernel, rfl, by decide +kernel, by decide +kernel⟩
variable [TB]
structure Txt (K : PySem.W.Frag) (mg : Str → Option Value) where
  f_is_integer : Addr
  d_is_integer : FuncData
  F_is_integer : L2.Fun K "is_integer" "is_integer" s_is_integer f_is_integer d_is_integer
  b_is_integer : Binds K d_is_integer P_is_integer []
  g_is_integer : mg "is_integer" = some (.ref f_is_integer)
  f_is_within : Addr
  d_is_within : FuncData
  F_is_within : L2.Fun K "is_within" "is_within" s_is_within f_is_within d_is_within
  b_is_within : Binds K d_is_within P_is_within []
  g_is_within : mg "is_within" = some (.ref f_is_within)
  f_is_flag : Addr
  d_is_flag : FuncData
  F_is_flag : L2.Fun K "is_flag" "is_flag" s_is_flag f_is_flag d_is_flag
  b_is_flag : Binds K d_is_flag P_is_flag []
  g_is_flag : mg "is_flag" = some (.ref f_is_flag)
  f_is_sized : Addr
  d_is_sized : FuncData
  F_is_sized : L2.Fun K "is_sized" "is_sized" s_is_sized f_is_sized d_is_sized
  b_is_sized : Binds K d_is_sized P_is_sized []
  g_is_sized : mg "is_sized" = some (.ref f_is_sized)
  f_are_rising : Addr
  d_are_rising : FuncData
  F_are_rising : L2.Fun K "are_rising" "are_rising" s_are_rising f_are_rising d_are_rising
  b_are_rising : Binds K d_are_rising P_are_rising []
  g_are_rising : mg "are_rising" = some (.ref f_are_rising)
  f_is_name : Addr
  d_is_name : FuncData
  F_is_name : L2.Fun K "is_name" "is_name" s_is_name f_is_name d_is_name
  b_is_name : Binds K d_is_name P_is_name []
  g_is_name : mg "is_name" = some (.ref f_is_name)
  f_is_text : Addr
  d_is_text : FuncData
  F_is_text : L2.Fun K "is_text" "is_text" s_is_text f_is_text d_is_text
  b_is_text : Binds K d_is_text P_is_text []
  g_is_text : mg "is_text" = some (.ref f_is_text)
  f_is_mode : Addr
  d_is_mode : FuncData
  F_is_mode : L2.Fun K "is_mode" "is_mode" s_is_mode f_is_mode d_is_mode
  b_is_mode : Binds K d_is_mode P_is_mode []
  g_is_mode : mg "is_mode" = some (.ref f_is_mode)
  f_are_named : Addr
  d_are_named : FuncData
  F_are_named : L2.Fun K "are_named" "are_named" s_are_named f_are_named d_are_named
  b_are_named : Binds K d_are_named P_are_named []
  g_are_named : mg "are_named" = some (.ref f_are_named)
  f_is_small_node : Addr
  d_is_small_node : FuncData
  F_is_small_node : L2.Fun K "is_small_node" "is_small_node" s_is_small_node f_is_small_node d_is_small_node
  b_is_small_node : Binds K d_is_small_node P_is_small_node []
  g_is_small_node : mg "is_small_node" = some (.ref f_is_small_node)
  f_is_folder_node : Addr
  d_is_folder_node : FuncData
  F_is_folder_node : L2.Fun K "is_folder_node" "is_folder_node" s_is_folder_node f_is_folder_node d_is_folder_node
  b_is_folder_node : Binds K d_is_folder_node P_is_folder_node []
  g_is_folder_node : mg "is_folder_node" = some (.ref f_is_folder_node)
  f_is_node : Addr
  d_is_node : FuncData
  F_is_node : L2.Fun K "is_node" "is_node" s_is_node f_is_node d_is_node
  b_is_node : Binds K d_is_node P_is_node []
  g_is_node : mg "is_node" = some (.ref f_is_node)
  f_is_tree : Addr
  d_is_tree : FuncData
  F_is_tree : L2.Fun K "is_tree" "is_tree" s_is_tree f_is_tree d_is_tree
  b_is_tree : Binds K d_is_tree P_is_tree []
  g_is_tree : mg "is_tree" = some (.ref f_is_tree)
  f_check_tree : Addr
  d_check_tree : FuncData
  F_check_tree : L2.Fun K "check_tree" "check_tree" s_check_tree f_check_tree d_check_tree
  b_check_tree : Binds K d_check_tree P_check_tree []
  g_check_tree : mg "check_tree" = some (.ref f_check_tree)
  f_kind_of : Addr
  d_kind_of : FuncData
  F_kind_of : L2.Fun K "kind_of" "kind_of" s_kind_of f_kind_of d_kind_of
  b_kind_of : Binds K d_kind_of P_kind_of []
  g_kind_of : mg "kind_of" = some (.ref f_kind_of)
  f_nodes_in : Addr
  d_nodes_in : FuncData
  F_nodes_in : L2.Fun K "nodes_in" "nodes_in" s_nodes_in f_nodes_in d_nodes_in
  b_nodes_in : Binds K d_nodes_in P_nodes_in []
  g_nodes_in : mg "nodes_in" = some (.ref f_nodes_in)
  f_is_folder_mark : Addr
  d_is_folder_mark : FuncData
  F_is_folder_mark : L2.Fun K "is_folder_mark" "is_folder_mark" s_is_folder_mark f_is_folder_mark d_is_folder_mark
  b_is_folder_mark : Binds K d_is_folder_mark P_is_folder_mark []
  g_is_folder_mark : mg "is_folder_mark" = some (.ref f_is_folder_mark)
  f_is_gone : Addr
  d_is_gone : FuncData
  F_is_gone : L2.Fun K "is_gone" "is_gone" s_is_gone f_is_gone d_is_gone
  b_is_gone : Binds K d_is_gone P_is_gone []
  g_is_gone : mg "is_gone" = some (.ref f_is_gone)
  f_is_layer : Addr
  d_is_layer : FuncData
  F_is_layer : L2.Fun K "is_layer" "is_layer" s_is_layer f_is_layer d_is_layer
  b_is_layer : Binds K d_is_layer P_is_layer []
  g_is_layer : mg "is_layer" = some (.ref f_is_layer)
  f_check_layer : Addr
  d_check_layer : FuncData
  F_check_layer : L2.Fun K "check_layer" "check_layer" s_check_layer f_check_layer d_check_layer
  b_check_layer : Binds K d_check_layer P_check_layer []
  g_check_layer : mg "check_layer" = some (.ref f_check_layer)
  c_made_folder : Addr
  p_made_folder : Addr
  tm_made_folder : (p_made_folder, ("made_folder.<locals>." ++ "<lambda>" : Str)) ∈ TB.tb
  tu_made_folder : ∀ q ∈ TB.tb, q.1 = p_made_folder → q.2 = ("made_folder.<locals>." ++ "<lambda>" : Str)
  f_made_folder : Addr
  d_made_folder : FuncData
  F_made_folder : FunC K "made_folder" "made_folder" s_made_folder f_made_folder d_made_folder c_made_folder
  b_made_folder : Binds K d_made_folder P_made_folder []
  g_made_folder : mg "made_folder" = some (.ref f_made_folder)
  f_check_many : Addr
  d_check_many : FuncData
  F_check_many : L2.Fun K "check_many" "check_many" s_check_many f_check_many d_check_many
  b_check_many : Binds K d_check_many P_check_many []
  g_check_many : mg "check_many" = some (.ref f_check_many)
  f_raw_made : Addr
  d_raw_made : FuncData
  F_raw_made : L2.Fun K "raw_made" "raw_made" s_raw_made f_raw_made d_raw_made
  b_raw_made : Binds K d_raw_made P_raw_made []
  g_raw_made : mg "raw_made" = some (.ref f_raw_made)
  f_made : Addr
  d_made : FuncData
  F_made : L2.Fun K "made" "made" s_made f_made d_made
  b_made : Binds K d_made P_made []
  g_made : mg "made" = some (.ref f_made)
  f_all_marks : Addr
  d_all_marks : FuncData
  F_all_marks : L2.Fun K "all_marks" "all_marks" s_all_marks f_all_marks d_all_marks
  b_all_marks : Binds K d_all_marks P_all_marks []
  g_all_marks : mg "all_marks" = some (.ref f_all_marks)
  f_check_marks : Addr
  d_check_marks : FuncData
  F_check_marks : L2.Fun K "check_marks" "check_marks" s_check_marks f_check_marks d_check_marks
  b_check_marks : Binds K d_check_marks P_check_marks []
  g_check_marks : mg "check_marks" = some (.ref f_check_marks)
  f_joined : Addr
  d_joined : FuncData
  F_joined : L2.Fun K "joined" "joined" s_joined f_joined d_joined
  b_joined : Binds K d_joined P_joined []
  g_joined : mg "joined" = some (.ref f_joined)
  c_joined_folder : Addr
  p_joined_folder : Addr
  tm_joined_folder : (p_joined_folder, ("joined_folder.<locals>." ++ "<lambda>" : Str)) ∈ TB.tb
  tu_joined_folder : ∀ q ∈ TB.tb, q.1 = p_joined_folder → q.2 = ("joined_folder.<locals>." ++ "<lambda>" : Str)
  f_joined_folder : Addr
  d_joined_folder : FuncData
  F_joined_folder : FunC K "joined_folder" "joined_folder" s_joined_folder f_joined_folder d_joined_folder c_joined_folder
  b_joined_folder : Binds K d_joined_folder P_joined_folder []
  g_joined_folder : mg "joined_folder" = some (.ref f_joined_folder)
  f_raw_behind : Addr
  d_raw_behind : FuncData
  F_raw_behind : L2.Fun K "raw_behind" "raw_behind" s_raw_behind f_raw_behind d_raw_behind
  b_raw_behind : Binds K d_raw_behind P_raw_behind []
  g_raw_behind : mg "raw_behind" = some (.ref f_raw_behind)
  f_one_behind : Addr
  d_one_behind : FuncData
  F_one_behind : L2.Fun K "one_behind" "one_behind" s_one_behind f_one_behind d_one_behind
  b_one_behind : Binds K d_one_behind P_one_behind []
  g_one_behind : mg "one_behind" = some (.ref f_one_behind)
  f__law_hand : Addr
  d__law_hand : FuncData
  F__law_hand : L2.Fun K "_law_hand" "_law_hand" s__law_hand f__law_hand d__law_hand
  b__law_hand : Binds K d__law_hand P__law_hand []
  g__law_hand : mg "_law_hand" = some (.ref f__law_hand)
  f__law_draw : Addr
  d__law_draw : FuncData
  F__law_draw : L2.Fun K "_law_draw" "_law_draw" s__law_draw f__law_draw d__law_draw
  b__law_draw : Binds K d__law_draw P__law_draw []
  g__law_draw : mg "_law_draw" = some (.ref f__law_draw)
  f__law_any : Addr
  d__law_any : FuncData
  F__law_any : L2.Fun K "_law_any" "_law_any" s__law_any f__law_any d__law_any
  b__law_any : Binds K d__law_any P__law_any []
  g__law_any : mg "_law_any" = some (.ref f__law_any)
  f__law_is : Addr
  d__law_is : FuncData
  F__law_is : L2.Fun K "_law_is" "_law_is" s__law_is f__law_is d__law_is
  b__law_is : Binds K d__law_is P__law_is []
  g__law_is : mg "_law_is" = some (.ref f__law_is)
  f__law_plain_one : Addr
  d__law_plain_one : FuncData
  F__law_plain_one : L2.Fun K "_law_plain_one" "_law_plain_one" s__law_plain_one f__law_plain_one d__law_plain_one
  b__law_plain_one : Binds K d__law_plain_one P__law_plain_one []
  g__law_plain_one : mg "_law_plain_one" = some (.ref f__law_plain_one)
  f__law_layer : Addr
  d__law_layer : FuncData
  F__law_layer : L2.Fun K "_law_layer" "_law_layer" s__law_layer f__law_layer d__law_layer
  b__law_layer : Binds K d__law_layer P__law_layer []
  g__law_layer : mg "_law_layer" = some (.ref f__law_layer)
  f__law_mark : Addr
  d__law_mark : FuncData
  F__law_mark : L2.Fun K "_law_mark" "_law_mark" s__law_mark f__law_mark d__law_mark
  b__law_mark : Binds K d__law_mark P__law_mark []
  g__law_mark : mg "_law_mark" = some (.ref f__law_mark)
  f__law_tree : Addr
  d__law_tree : FuncData
  F__law_tree : L2.Fun K "_law_tree" "_law_tree" s__law_tree f__law_tree d__law_tree
  b__law_tree : Binds K d__law_tree P__law_tree []
  g__law_tree : mg "_law_tree" = some (.ref f__law_tree)
  f__law_node : Addr
  d__law_node : FuncData
  F__law_node : L2.Fun K "_law_node" "_law_node" s__law_node f__law_node d__law_node
  b__law_node : Binds K d__law_node P__law_node []
  g__law_node : mg "_law_node" = some (.ref f__law_node)
  f__law_by_names : Addr
  d__law_by_names : FuncData
  F__law_by_names : L2.Fun K "_law_by_names" "_law_by_names" s__law_by_names f__law_by_names d__law_by_names
  b__law_by_names : Binds K d__law_by_names P__law_by_names []
  g__law_by_names : mg "_law_by_names" = some (.ref f__law_by_names)
  f__law_made : Addr
  d__law_made : FuncData
  F__law_made : L2.Fun K "_law_made" "_law_made" s__law_made f__law_made d__law_made
  b__law_made : Binds K d__law_made P__law_made []
  g__law_made : mg "_law_made" = some (.ref f__law_made)
  f__law_behind : Addr
  d__law_behind : FuncData
  F__law_behind : L2.Fun K "_law_behind" "_law_behind" s__law_behind f__law_behind d__law_behind
  b__law_behind : Binds K d__law_behind P__law_behind []
  g__law_behind : mg "_law_behind" = some (.ref f__law_behind)
  f__law_trees : Addr
  d__law_trees : FuncData
  F__law_trees : L2.Fun K "_law_trees" "_law_trees" s__law_trees f__law_trees d__law_trees
  b__law_trees : Binds K d__law_trees P__law_trees []
  g__law_trees : mg "_law_trees" = some (.ref f__law_trees)
  f__law_is_right : Addr
  d__law_is_right : FuncData
  F__law_is_right : L2.Fun K "_law_is_right" "_law_is_right" s__law_is_right f__law_is_right d__law_is_right
  b__law_is_right : Binds K d__law_is_right P__law_is_right []
  g__law_is_right : mg "_law_is_right" = some (.ref f__law_is_right)
  f_law : Addr
  d_law : FuncData
  F_law : L2.Fun K "law" "law" s_law f_law d_law
  b_law : Binds K d_law P_law []
  g_law : mg "law" = some (.ref f_law)
  t_MOST_NODES : Tok
  c_MOST_NODES : mg "MOST_NODES" = some (.int 200 t_MOST_NODES)
  t_MOST_NAMES : Tok
  c_MOST_NAMES : mg "MOST_NAMES" = some (.int 9 t_MOST_NAMES)
  t_MOST_SIGNS : Tok
  c_MOST_SIGNS : mg "MOST_SIGNS" = some (.int 8 t_MOST_SIGNS)
  t_MOST_TEXT : Tok
  c_MOST_TEXT : mg "MOST_TEXT" = some (.int 40 t_MOST_TEXT)
  t_MOST_MODE : Tok
  c_MOST_MODE : mg "MOST_MODE" = some (.int 63 t_MOST_MODE)
  t_FILE : Tok
  c_FILE : mg "FILE" = some (.str "file" t_FILE)
  t_LINK : Tok
  c_LINK : mg "LINK" = some (.str "link" t_LINK)
  t_FOLDER : Tok
  c_FOLDER : mg "FOLDER" = some (.str "folder" t_FOLDER)
  t_NONE : Tok
  c_NONE : mg "NONE" = some (.str "none" t_NONE)
  t_SIGNS : Tok
  c_SIGNS : mg "SIGNS" = some (.str "abcdefghijklmnopqrstuvwxyz0123456789." t_SIGNS)
  t_GONE : Tok
  c_GONE : mg "GONE" = some (.str "gone" t_GONE)
  m_abs : mg "abs" = none
  m_all : mg "all" = none
  m_bool : mg "bool" = none
  m_dict : mg "dict" = none
  m_int : mg "int" = none
  m_isinstance : mg "isinstance" = none
  m_len : mg "len" = none
  m_list : mg "list" = none
  m_range : mg "range" = none
  m_repr : mg "repr" = none
  m_sorted : mg "sorted" = none
  m_str : mg "str" = none
  m_tuple : mg "tuple" = none
  m_zip : mg "zip" = none
structure Tbs (P : Program) (w : World) {K : PySem.W.Frag} {mg : Str → Option Value} (base : Heap) (T : Txt K mg) : Prop where
  hp : TB.prog = P
  hw : TB.w = w
  b_made_folder : LamX.TabB base mg T.c_made_folder T.p_made_folder
  b_joined_folder : LamX.TabB base mg T.c_joined_folder T.p_joined_folder
end Lw
end
section
set_option Elab.async false
set_option linter.all false
set_option maxRecDepth 100000
set_option maxHeartbeats 4000000
open PySem PySem.Spec PyProof.Rows L2 PD
namespace Lw
def t_law (S_one_behind S__law_is_right : FSpec) : PTS :=
  (tSq (tAs false (tTp (tCn (tK (.str "folder")) (tCn (tK (.int 1)) (tCn (tTp (tCn (tTp (tCn (tK (.str "a")) (tCn (tTp (tCn (tK (.str "file")) (tCn (tK (.str "x")) (tCn (tK (.int 0)) tNl)))) tNl))) (tCn (tTp (tCn (tK (.str "b")) (tCn (tTp (tCn (tK (.str "gone")) tNl)) tNl))) tNl))) (tCn (tK (.bool false)) tNl))))) 2)
  (tSq (tAs false (tTp (tCn (tK (.str "folder")) (tCn (tK (.int 2)) (tCn (tTp (tCn (tTp (tCn (tK (.str "a")) (tCn (tTp (tCn (tK (.str "folder")) (tCn (tK (.int 3)) (tCn (tTp tNl) (tCn (tK (.bool false)) tNl))))) tNl))) tNl)) (tCn (tK (.bool false)) tNl))))) 3)
  (tSq (tAs false (tTp (tCn (tK (.str "folder")) (tCn (tK (.int 2)) (tCn (tTp (tCn (tTp (tCn (tK (.str "a")) (tCn (tTp (tCn (tK (.str "folder")) (tCn (tK (.int 3)) (tCn (tTp tNl) (tCn (tK (.bool true)) tNl))))) tNl))) (tCn (tTp (tCn (tK (.str "b")) (tCn (tTp (tCn (tK (.str "gone")) tNl)) tNl))) tNl))) (tCn (tK (.bool false)) tNl))))) 4)
  (tSq (tIfc (tOr (tBo (tBin neD (tOf (tFn S_one_behind (tCnV (tVr 2) (tCnV (tVr 3) tNlV)))) (tSl 4))) (tBo (tBin neD (tOf (tBin ixD (tOf (tBin ixD (tOf (tFn S_one_behind (tCnV (tVr 3) (tCnV (tVr 2) tNlV)))) (tOf (tK (.int 2))))) (tOf (tK (.int 0))))) (tOf (tTp (tCn (tK (.str "a")) (tCn (tTp (tCn (tK (.str "file")) (tCn (tK (.str "x")) (tCn (tK (.int 0)) tNl)))) tNl))))))) (tSq (tRt false (tK (.bool false)))
  tNx) tNx)
  (tSq (tRt false (tCl allD (tCnL (tOf (tComp (tRg1 (tCn (tK (.int 6)) tNl)) (gN 5) tYs (tFn S__law_is_right (tCnH 1 tNlV)) [5])) tNlL)))
  tNx)))))
variable [TB]
theorem wk_law {P : Program} {w : World} {K : PySem.W.Frag} {mg : Str → Option Value} {base : Heap} (T : Txt K mg) (W : Tbs P w base T) {k : Nat}
  {S_one_behind : FSpec} (mono_one_behind : MonoF S_one_behind) (G_one_behind : FnG P w K mg base CX0 k T.f_one_behind T.d_one_behind P_one_behind (spD K false S_one_behind))
  {S__law_is_right : FSpec} (mono__law_is_right : MonoF S__law_is_right) (G__law_is_right : FnG P w K mg base CX0 k T.f__law_is_right T.d__law_is_right P__law_is_right (spD K false S__law_is_right))
  (cdv : Value) (A : Around) (outer : List Env) (s : Shared) (H : Hp) (E : XK) (hr : RoomG k (A.deeper (envOfC "law" (defScope s_law) s.heap.objs.size T.f_law cdv))) :
  DSs (cxOf CX0 P w K mg base N_law "law" (defScope s_law) T.f_law cdv A outer s H E).nox ((defBody s_law).drop 1) (t_law S_one_behind S__law_is_right) := by
  have hu := hu64 hr
  have hu1 := hu1_ hr
  have hW : SameW (cxOf CX0 P w K mg base N_law "law" (defScope s_law) T.f_law cdv A outer s H E).nox := ⟨W.hp, W.hw⟩
  have h : ∃ t, DSs (cxOf CX0 P w K mg base N_law "law" (defScope s_law) T.f_law cdv A outer s H E).nox ((defBody s_law).drop 1) t ∧ t = t_law S_one_behind S__law_is_right := by
    refine ⟨_, (dss_cons (ds_set (i := 2) sc_law.nd rfl (DE.x (de_tup (da_cons de_str (da_cons de_int (da_cons (de_tup (da_cons (de_tup (da_cons de_str (da_cons (de_tup (da_cons de_str (da_cons de_str (da_cons de_int da_nil)))) da_nil))) (da_cons (de_tup (da_cons de_str (da_cons (de_tup (da_cons de_str da_nil)) da_nil))) da_nil))) (da_cons de_bl da_nil)))))) (by first | exact .inl rfl | exact .inr rfl))
  (dss_cons (ds_set (i := 3) sc_law.nd rfl (DE.x (de_tup (da_cons de_str (da_cons de_int (da_cons (de_tup (da_cons (de_tup (da_cons de_str (da_cons (de_tup (da_cons de_str (da_cons de_int (da_cons (de_tup da_nil) (da_cons de_bl da_nil))))) da_nil))) da_nil)) (da_cons de_bl da_nil)))))) (by first | exact .inl rfl | exact .inr rfl))
  (dss_cons (ds_set (i := 4) sc_law.nd rfl (DE.x (de_tup (da_cons de_str (da_cons de_int (da_cons (de_tup (da_cons (de_tup (da_cons de_str (da_cons (de_tup (da_cons de_str (da_cons de_int (da_cons (de_tup da_nil) (da_cons de_bl da_nil))))) da_nil))) (da_cons (de_tup (da_cons de_str (da_cons (de_tup (da_cons de_str da_nil)) da_nil))) da_nil))) (da_cons de_bl da_nil)))))) (by first | exact .inl rfl | exact .inr rfl))
  (dss_cons (ds_if (DW.dt (dw_or (dt_cmp (op_neP hu) (DE.dl (de_call G_one_behind mono_one_behind hr (by rfl) T.g_one_behind T.F_one_behind.kp T.b_one_behind pass0 (dv_cons (de_var 2) (dv_cons (de_var 3) dv_nil)))) (dl_var 4)) (dw_or1 (dt_cmp (op_neP hu) (DE.dl (de_ix hu hW (DE.dl (de_ix hu hW (DE.dl (de_call G_one_behind mono_one_behind hr (by rfl) T.g_one_behind T.F_one_behind.kp T.b_one_behind pass0 (dv_cons (de_var 3) (dv_cons (de_var 2) dv_nil)))) (DE.dl de_int))) (DE.dl de_int))) (DE.dl (de_tup (da_cons de_str (da_cons (de_tup (da_cons de_str (da_cons de_str (da_cons de_int da_nil)))) da_nil)))))))) (dss_cons (ds_ret (DE.x de_bl))
  dss_nil) dss_nil)
  (dss_cons (ds_ret (DE.x (de_callB (call_allP rfl) (by rfl) T.m_all bt_all (dls_cons (DE.dl (DF.de (df_lc rfl sc_law.nd (DI.lo (di_rng1 (by rfl) T.m_range (da_cons de_int da_nil))) (blkOk_by (own := [("lap", 5)]) (N := N_law) (sc := defScope s_law) (by decide +kernel)) (fun _ _ _ _ _ => (dg_name (i := 5) sc_law.nd rfl (by first | exact .inl rfl | exact .inr rfl) (by first | exact .inl rfl | exact .inr rfl))) (fun _ _ _ _ _ => dts_nil) (fun _ _ _ _ _ => (de_call G__law_is_right mono__law_is_right hr (by rfl) T.g__law_is_right T.F__law_is_right.kp T.b__law_is_right pass0 (dv_hand (pv 1) dv_nil))) (by decide)))) dls_nil))))
  dss_nil))))), ?_⟩
    rfl
  obtain ⟨t, h1, h2⟩ := h
  rw [← h2]
  exact h1
end Lw
end
section
set_option Elab.async false
set_option linter.all false
set_option maxRecDepth 100000
set_option maxHeartbeats 4000000
/-! K14B: the law. -/
namespace Lw
open PySem PySem.Spec PyProof.Rows L2 PD
variable [TB]
def lo0 : Nd := .fold 1 [("a", .leaf (.file "x" 0)), ("b", .gone)] (some false)
def up0 : Nd := .fold 2 [("a", .fold 3 [] (some false))] (some false)
def du0 : Nd := .fold 2 [("a", .fold 3 [] (some true)), ("b", .gone)] (some false)
theorem lo0_la : La lo0 := by
  refine ⟨.mark _ _ _ _ (by omega) ?_ (by decide) fun p hp => ?_, rfl⟩
  · exact List.pairwise_cons.mpr ⟨fun p hp => by rw [List.mem_singleton.mp hp]; decide, List.pairwise_singleton _ _⟩
  · rcases List.mem_cons.mp hp with e | hp
    · rw [e]; exact .leaf _ _ _ ⟨by decide, by omega⟩
    · rw [List.mem_singleton.mp hp]; exact .gone _
theorem up0_la : La up0 := by
  refine ⟨.mark _ _ _ _ (by omega) (List.pairwise_singleton _ _) (by decide) fun p hp => ?_, rfl⟩
  rw [List.mem_singleton.mp hp]
  exact .mark _ _ _ _ (by omega) List.Pairwise.nil (fun _ z => nomatch z) (fun _ z => nomatch z)
theorem lo_up : join (some lo0) up0 = du0 := by
  unfold lo0 up0 du0
  rw [join_on_fold]
  simp only [joinL, get_cons, get_nil]
  rw [if_pos trivial, join_on_leaf]
  rfl
theorem up_lo : ∃ r f, join (some up0) lo0 = .fold 1 (("a", .leaf (.file "x" 0)) :: r) (some f) := by
  unfold lo0 up0
  rw [join_on_fold]
  simp only [joinL, get_cons, get_nil, join_leaf, join_gone]
  exact ⟨_, _, rfl⟩
theorem lo0_D : PyData.tuple [.str "folder", .int 1, .tuple [.tuple [.str "a", .tuple [.str "file", .str "x", .int 0]], .tuple [.str "b", .tuple [.str "gone"]]], .bool false] = ndD lo0 := by
  unfold lo0
  rw [ndD_mark, esD, esD, esD, ndD_leaf, ndD_gone]; rfl
theorem up0_D : PyData.tuple [.str "folder", .int 2, .tuple [.tuple [.str "a", .tuple [.str "folder", .int 3, .tuple [], .bool false]]], .bool false] = ndD up0 := by
  unfold up0
  rw [ndD_mark, esD, esD, ndD_mark, esD]; rfl
theorem du0_D : PyData.tuple [.str "folder", .int 2, .tuple [.tuple [.str "a", .tuple [.str "folder", .int 3, .tuple [], .bool true]], .tuple [.str "b", .tuple [.str "gone"]]], .bool false] = ndD du0 := by
  unfold du0
  rw [ndD_mark, esD, esD, esD, ndD_mark, esD, ndD_gone]; rfl
theorem rd_law (hd : List PyData) (hh : HandD hd) : t_law S_one_behind S__law_is_right lawEnds ⟨(List.replicate 6 .no).set 1 .h, hd⟩ := by
  simp only [t_law]
  simp [sizeLine, lawEnds]
  rw [lo0_D, up0_D, du0_D]
  refine call_behind lo0_la up0_la ?_
  rw [lo_up]
  have hd0 : La du0 := by rw [← lo_up]; exact lo0_la.join up0_la
  refine ⟨_, hd0.ft.ne_self (by omega), rfl, call_behind up0_la lo0_la ?_⟩
  obtain ⟨r, f, e⟩ := up_lo
  rw [e]
  have e1 : neD (.tuple [.str "a", .tuple [.str "file", .str "x", .int 0]]) (.tuple [.str "a", .tuple [.str "file", .str "x", .int 0]]) = some (.bool false) := by
    unfold neD okEq
    simp [PyData.plain, PyData.plainAll, PyData.depth, PyData.depthAll, PyData.eqv, PyData.eqvAll]
  have e2 : ixD (.tuple (esD (("a", Nd.leaf (.file "x" 0)) :: r))) (.int 0) = some (.tuple [.str "a", .tuple [.str "file", .str "x", .int 0]]) := by
    rw [esD, ix_zero, ndD_leaf]; rfl
  refine ⟨_, ix2_fold _ _ _, _, e2, _, e1, rfl, by decide, ?_⟩
  have e6 : rngD 0 6 = (List.range 6).map nD := rng_natE 6
  rw [e6]
  refine cRun_inv (fun i out hd => out = (List.range i).map (fun _ => .bool true) ∧ HandD hd) (fun i d out hd Y M hi ⟨eo, hh⟩ y m => ?_) (fun out hd ⟨eo, hh⟩ => ?_) ⟨rfl, hh⟩
  · simp [S__law_is_right]
    exact ⟨hh, fun hd' hh' => y _ _ ⟨by rw [eo, List.range_succ, List.map_append]; rfl, hh'⟩⟩
  · subst eo
    exact (allD_map (fun _ => true) _).trans (by rw [List.all_eq_true.mpr fun _ _ => rfl])
end Lw
end
section
set_option Elab.async false
set_option linter.all false
set_option maxRecDepth 100000
set_option maxHeartbeats 4000000
open PySem PySem.Spec PyProof.Rows L2 PD
namespace Lw
variable [TB]
theorem wk_is_integer {P : Program} {w : World} {K : PySem.W.Frag} {mg : Str → Option Value} {base : Heap} (T : Txt K mg) (W : Tbs P w base T) {k : Nat}
  (cdv : Value) (A : Around) (outer : List Env) (s : Shared) (H : Hp) (E : XK) (hr : RoomG k (A.deeper (envOfC "is_integer" (defScope s_is_integer) s.heap.objs.size T.f_is_integer cdv))) :
  DSs (cxOf CX0 P w K mg base N_is_integer "is_integer" (defScope s_is_integer) T.f_is_integer cdv A outer s H E).nox (defBody s_is_integer) t_is_integer := by
  have hu := hu64 hr
  have hu1 := hu1_ hr
  have hW : SameW (cxOf CX0 P w K mg base N_is_integer "is_integer" (defScope s_is_integer) T.f_is_integer cdv A outer s H E).nox := ⟨W.hp, W.hw⟩
  have h : ∃ t, DSs (cxOf CX0 P w K mg base N_is_integer "is_integer" (defScope s_is_integer) T.f_is_integer cdv A outer s H E).nox (defBody s_is_integer) t ∧ t = t_is_integer := by
    refine ⟨_, (dss_cons (ds_ret (DE.x (de_and (de_isa isa_int (dl_var 0) (by rfl) T.m_isinstance bt_isinstance (by rfl) T.m_int bt_int) (de_one (de_not (DE.dl (de_isa isa_bool (dl_var 0) (by rfl) T.m_isinstance bt_isinstance (by rfl) T.m_bool bt_bool)))))))
  dss_nil), ?_⟩
    rfl
  obtain ⟨t, h1, h2⟩ := h
  rw [← h2]
  exact h1
theorem wk_is_within {P : Program} {w : World} {K : PySem.W.Frag} {mg : Str → Option Value} {base : Heap} (T : Txt K mg) (W : Tbs P w base T) {k : Nat}
  {S_is_integer : FSpec} (mono_is_integer : MonoF S_is_integer) (G_is_integer : FnG P w K mg base CX0 k T.f_is_integer T.d_is_integer P_is_integer (spD K false S_is_integer))
  (cdv : Value) (A : Around) (outer : List Env) (s : Shared) (H : Hp) (E : XK) (hr : RoomG k (A.deeper (envOfC "is_within" (defScope s_is_within) s.heap.objs.size T.f_is_within cdv))) :
  DSs (cxOf CX0 P w K mg base N_is_within "is_within" (defScope s_is_within) T.f_is_within cdv A outer s H E).nox (defBody s_is_within) (t_is_within S_is_integer) := by
  have hu := hu64 hr
  have hu1 := hu1_ hr
  have hW : SameW (cxOf CX0 P w K mg base N_is_within "is_within" (defScope s_is_within) T.f_is_within cdv A outer s H E).nox := ⟨W.hp, W.hw⟩
  have h : ∃ t, DSs (cxOf CX0 P w K mg base N_is_within "is_within" (defScope s_is_within) T.f_is_within cdv A outer s H E).nox (defBody s_is_within) t ∧ t = t_is_within S_is_integer := by
    refine ⟨_, (dss_cons (ds_ret (DE.x (de_and (de_call G_is_integer mono_is_integer hr (by rfl) T.g_is_integer T.F_is_integer.kp T.b_is_integer pass0 (dv_cons (de_var 0) dv_nil)) (de_one (de_chn (op_leP hu) (op_leP hu) (dl_var 1) (dl_var 0) (dl_var 2))))))
  dss_nil), ?_⟩
    rfl
  obtain ⟨t, h1, h2⟩ := h
  rw [← h2]
  exact h1
theorem wk_is_flag {P : Program} {w : World} {K : PySem.W.Frag} {mg : Str → Option Value} {base : Heap} (T : Txt K mg) (W : Tbs P w base T) {k : Nat}
  (cdv : Value) (A : Around) (outer : List Env) (s : Shared) (H : Hp) (E : XK) (hr : RoomG k (A.deeper (envOfC "is_flag" (defScope s_is_flag) s.heap.objs.size T.f_is_flag cdv))) :
  DSs (cxOf CX0 P w K mg base N_is_flag "is_flag" (defScope s_is_flag) T.f_is_flag cdv A outer s H E).nox (defBody s_is_flag) t_is_flag := by
  have hu := hu64 hr
  have hu1 := hu1_ hr
  have hW : SameW (cxOf CX0 P w K mg base N_is_flag "is_flag" (defScope s_is_flag) T.f_is_flag cdv A outer s H E).nox := ⟨W.hp, W.hw⟩
  have h : ∃ t, DSs (cxOf CX0 P w K mg base N_is_flag "is_flag" (defScope s_is_flag) T.f_is_flag cdv A outer s H E).nox (defBody s_is_flag) t ∧ t = t_is_flag := by
    refine ⟨_, (dss_cons (ds_ret (DE.x (de_isa isa_bool (dl_var 0) (by rfl) T.m_isinstance bt_isinstance (by rfl) T.m_bool bt_bool)))
  dss_nil), ?_⟩
    rfl
  obtain ⟨t, h1, h2⟩ := h
  rw [← h2]
  exact h1
theorem wk_is_sized {P : Program} {w : World} {K : PySem.W.Frag} {mg : Str → Option Value} {base : Heap} (T : Txt K mg) (W : Tbs P w base T) {k : Nat}
  (cdv : Value) (A : Around) (outer : List Env) (s : Shared) (H : Hp) (E : XK) (hr : RoomG k (A.deeper (envOfC "is_sized" (defScope s_is_sized) s.heap.objs.size T.f_is_sized cdv))) :
  DSs (cxOf CX0 P w K mg base N_is_sized "is_sized" (defScope s_is_sized) T.f_is_sized cdv A outer s H E).nox (defBody s_is_sized) t_is_sized := by
  have hu := hu64 hr
  have hu1 := hu1_ hr
  have hW : SameW (cxOf CX0 P w K mg base N_is_sized "is_sized" (defScope s_is_sized) T.f_is_sized cdv A outer s H E).nox := ⟨W.hp, W.hw⟩
  have h : ∃ t, DSs (cxOf CX0 P w K mg base N_is_sized "is_sized" (defScope s_is_sized) T.f_is_sized cdv A outer s H E).nox (defBody s_is_sized) t ∧ t = t_is_sized := by
    refine ⟨_, (dss_cons (ds_ret (DE.x (de_and (de_isa isa_tuple (dl_var 0) (by rfl) T.m_isinstance bt_isinstance (by rfl) T.m_tuple bt_tuple) (de_one (de_chn (op_leP hu) (op_leP hu) (dl_var 1) (DE.dl (de_callB call_lenP (by rfl) T.m_len bt_len (dls_cons (dl_var 0) dls_nil))) (dl_var 2))))))
  dss_nil), ?_⟩
    rfl
  obtain ⟨t, h1, h2⟩ := h
  rw [← h2]
  exact h1
theorem wk_are_rising {P : Program} {w : World} {K : PySem.W.Frag} {mg : Str → Option Value} {base : Heap} (T : Txt K mg) (W : Tbs P w base T) {k : Nat}
  (cdv : Value) (A : Around) (outer : List Env) (s : Shared) (H : Hp) (E : XK) (hr : RoomG k (A.deeper (envOfC "are_rising" (defScope s_are_rising) s.heap.objs.size T.f_are_rising cdv))) :
  DSs (cxOf CX0 P w K mg base N_are_rising "are_rising" (defScope s_are_rising) T.f_are_rising cdv A outer s H E).nox (defBody s_are_rising) t_are_rising := by
  have hu := hu64 hr
  have hu1 := hu1_ hr
  have hW : SameW (cxOf CX0 P w K mg base N_are_rising "are_rising" (defScope s_are_rising) T.f_are_rising cdv A outer s H E).nox := ⟨W.hp, W.hw⟩
  have h : ∃ t, DSs (cxOf CX0 P w K mg base N_are_rising "are_rising" (defScope s_are_rising) T.f_are_rising cdv A outer s H E).nox (defBody s_are_rising) t ∧ t = t_are_rising := by
    refine ⟨_, (dss_cons (ds_ret (DE.x (de_callB (call_allP rfl) (by rfl) T.m_all bt_all (dls_cons (DE.dl (DF.de (df_lc rfl sc_are_rising.nd (DI.lo (di_zip (by rfl) T.m_zip (da_cons (de_var 0) (da_cons (de_slice (dl_var 0) (do_some de_int) do_none) da_nil)))) (blkOk_by (own := [("one", 1), ("other", 2)]) (N := N_are_rising) (sc := defScope s_are_rising) (by decide +kernel)) (fun _ _ _ _ _ => (dg_tup (n := 2) rfl (dgs_cons (dg_name (i := 1) sc_are_rising.nd rfl (by first | exact .inl rfl | exact .inr rfl) (by first | exact .inl rfl | exact .inr rfl)) (dgs_cons (dg_name (i := 2) sc_are_rising.nd rfl (by first | exact .inl rfl | exact .inr rfl) (by first | exact .inl rfl | exact .inr rfl)) dgs_nil)))) (fun _ _ _ _ _ => dts_nil) (fun _ _ _ _ _ => (de_cmp (op_ltP hu) (dl_var 1) (dl_var 2))) (by decide)))) dls_nil))))
  dss_nil), ?_⟩
    rfl
  obtain ⟨t, h1, h2⟩ := h
  rw [← h2]
  exact h1
theorem wk_is_name {P : Program} {w : World} {K : PySem.W.Frag} {mg : Str → Option Value} {base : Heap} (T : Txt K mg) (W : Tbs P w base T) {k : Nat}
  (cdv : Value) (A : Around) (outer : List Env) (s : Shared) (H : Hp) (E : XK) (hr : RoomG k (A.deeper (envOfC "is_name" (defScope s_is_name) s.heap.objs.size T.f_is_name cdv))) :
  DSs (cxOf CX0 P w K mg base N_is_name "is_name" (defScope s_is_name) T.f_is_name cdv A outer s H E).nox (defBody s_is_name) t_is_name := by
  have hu := hu64 hr
  have hu1 := hu1_ hr
  have hW : SameW (cxOf CX0 P w K mg base N_is_name "is_name" (defScope s_is_name) T.f_is_name cdv A outer s H E).nox := ⟨W.hp, W.hw⟩
  have h : ∃ t, DSs (cxOf CX0 P w K mg base N_is_name "is_name" (defScope s_is_name) T.f_is_name cdv A outer s H E).nox (defBody s_is_name) t ∧ t = t_is_name := by
    refine ⟨_, (dss_cons (ds_if (DW.dt (dw_or (dt_not (dt_val (de_isa isa_str (dl_var 0) (by rfl) T.m_isinstance bt_isinstance (by rfl) T.m_str bt_str))) (dw_or (dt_not (dt_chn (op_leP hu) (op_leP hu) (DE.dl de_int) (DE.dl (de_callB call_lenP (by rfl) T.m_len bt_len (dls_cons (dl_var 0) dls_nil))) (DE.dl (de_gint (by rfl) T.c_MOST_SIGNS)))) (dw_or1 (dt_cmp (op_inP hu hW) (dl_var 0) (DE.dl (de_tup (da_cons de_str (da_cons de_str da_nil))))))))) (dss_cons (ds_ret (DE.x de_bl))
  dss_nil) dss_nil)
  (dss_cons (ds_ret (DE.x (de_callB (call_allP rfl) (by rfl) T.m_all bt_all (dls_cons (DE.dl (DF.de (df_lc rfl sc_is_name.nd (di_str (dl_var 0)) (blkOk_by (own := [("sign", 1)]) (N := N_is_name) (sc := defScope s_is_name) (by decide +kernel)) (fun _ _ _ _ _ => (dg_name (i := 1) sc_is_name.nd rfl (by first | exact .inl rfl | exact .inr rfl) (by first | exact .inl rfl | exact .inr rfl))) (fun _ _ _ _ _ => dts_nil) (fun _ _ _ _ _ => (de_cmp (op_inP hu hW) (dl_var 1) (DE.dl (de_gstr (by rfl) T.c_SIGNS)))) (by decide)))) dls_nil))))
  dss_nil)), ?_⟩
    rfl
  obtain ⟨t, h1, h2⟩ := h
  rw [← h2]
  exact h1
theorem wk_is_text {P : Program} {w : World} {K : PySem.W.Frag} {mg : Str → Option Value} {base : Heap} (T : Txt K mg) (W : Tbs P w base T) {k : Nat}
  (cdv : Value) (A : Around) (outer : List Env) (s : Shared) (H : Hp) (E : XK) (hr : RoomG k (A.deeper (envOfC "is_text" (defScope s_is_text) s.heap.objs.size T.f_is_text cdv))) :
  DSs (cxOf CX0 P w K mg base N_is_text "is_text" (defScope s_is_text) T.f_is_text cdv A outer s H E).nox (defBody s_is_text) t_is_text := by
  have hu := hu64 hr
  have hu1 := hu1_ hr
  have hW : SameW (cxOf CX0 P w K mg base N_is_text "is_text" (defScope s_is_text) T.f_is_text cdv A outer s H E).nox := ⟨W.hp, W.hw⟩
  have h : ∃ t, DSs (cxOf CX0 P w K mg base N_is_text "is_text" (defScope s_is_text) T.f_is_text cdv A outer s H E).nox (defBody s_is_text) t ∧ t = t_is_text := by
    refine ⟨_, (dss_cons (ds_ret (DE.x (de_and (de_isa isa_str (dl_var 0) (by rfl) T.m_isinstance bt_isinstance (by rfl) T.m_str bt_str) (de_and (de_cmp (op_leP hu) (DE.dl (de_callB call_lenP (by rfl) T.m_len bt_len (dls_cons (dl_var 0) dls_nil))) (DE.dl (de_gint (by rfl) T.c_MOST_TEXT))) (de_one (de_callB (call_allP rfl) (by rfl) T.m_all bt_all (dls_cons (DE.dl (DF.de (df_lc rfl sc_is_text.nd (di_str (dl_var 0)) (blkOk_by (own := [("sign", 1)]) (N := N_is_text) (sc := defScope s_is_text) (by decide +kernel)) (fun _ _ _ _ _ => (dg_name (i := 1) sc_is_text.nd rfl (by first | exact .inl rfl | exact .inr rfl) (by first | exact .inl rfl | exact .inr rfl))) (fun _ _ _ _ _ => dts_nil) (fun _ _ _ _ _ => (de_chn (op_leP hu) (op_leP hu) (DE.dl de_str) (dl_var 1) (DE.dl de_str))) (by decide)))) dls_nil)))))))
  dss_nil), ?_⟩
    rfl
  obtain ⟨t, h1, h2⟩ := h
  rw [← h2]
  exact h1
theorem wk_is_mode {P : Program} {w : World} {K : PySem.W.Frag} {mg : Str → Option Value} {base : Heap} (T : Txt K mg) (W : Tbs P w base T) {k : Nat}
  {S_is_within : FSpec} (mono_is_within : MonoF S_is_within) (G_is_within : FnG P w K mg base CX0 k T.f_is_within T.d_is_within P_is_within (spD K false S_is_within))
  (cdv : Value) (A : Around) (outer : List Env) (s : Shared) (H : Hp) (E : XK) (hr : RoomG k (A.deeper (envOfC "is_mode" (defScope s_is_mode) s.heap.objs.size T.f_is_mode cdv))) :
  DSs (cxOf CX0 P w K mg base N_is_mode "is_mode" (defScope s_is_mode) T.f_is_mode cdv A outer s H E).nox (defBody s_is_mode) (t_is_mode S_is_within) := by
  have hu := hu64 hr
  have hu1 := hu1_ hr
  have hW : SameW (cxOf CX0 P w K mg base N_is_mode "is_mode" (defScope s_is_mode) T.f_is_mode cdv A outer s H E).nox := ⟨W.hp, W.hw⟩
  have h : ∃ t, DSs (cxOf CX0 P w K mg base N_is_mode "is_mode" (defScope s_is_mode) T.f_is_mode cdv A outer s H E).nox (defBody s_is_mode) t ∧ t = t_is_mode S_is_within := by
    refine ⟨_, (dss_cons (ds_ret (DE.x (de_call G_is_within mono_is_within hr (by rfl) T.g_is_within T.F_is_within.kp T.b_is_within pass0 (dv_cons (de_var 0) (dv_cons de_int (dv_cons (de_gint (by rfl) T.c_MOST_MODE) dv_nil))))))
  dss_nil), ?_⟩
    rfl
  obtain ⟨t, h1, h2⟩ := h
  rw [← h2]
  exact h1
theorem wk_are_named {P : Program} {w : World} {K : PySem.W.Frag} {mg : Str → Option Value} {base : Heap} (T : Txt K mg) (W : Tbs P w base T) {k : Nat}
  {S_is_sized : FSpec} (mono_is_sized : MonoF S_is_sized) (G_is_sized : FnG P w K mg base CX0 k T.f_is_sized T.d_is_sized P_is_sized (spD K false S_is_sized))
  {S_are_rising : FSpec} (mono_are_rising : MonoF S_are_rising) (G_are_rising : FnG P w K mg base CX0 k T.f_are_rising T.d_are_rising P_are_rising (spD K false S_are_rising))
  {S_is_name : FSpec} (mono_is_name : MonoF S_is_name) (G_is_name : FnG P w K mg base CX0 k T.f_is_name T.d_is_name P_is_name (spD K false S_is_name))
  (cdv : Value) (A : Around) (outer : List Env) (s : Shared) (H : Hp) (E : XK) (hr : RoomG k (A.deeper (envOfC "are_named" (defScope s_are_named) s.heap.objs.size T.f_are_named cdv))) :
  DSs (cxOf CX0 P w K mg base N_are_named "are_named" (defScope s_are_named) T.f_are_named cdv A outer s H E).nox (defBody s_are_named) (t_are_named S_is_sized S_are_rising S_is_name) := by
  have hu := hu64 hr
  have hu1 := hu1_ hr
  have hW : SameW (cxOf CX0 P w K mg base N_are_named "are_named" (defScope s_are_named) T.f_are_named cdv A outer s H E).nox := ⟨W.hp, W.hw⟩
  have h : ∃ t, DSs (cxOf CX0 P w K mg base N_are_named "are_named" (defScope s_are_named) T.f_are_named cdv A outer s H E).nox (defBody s_are_named) t ∧ t = t_are_named S_is_sized S_are_rising S_is_name := by
    refine ⟨_, (dss_cons (ds_if (DW.dt (dw_or (dt_not (dt_val (de_isa isa_tuple (dl_var 0) (by rfl) T.m_isinstance bt_isinstance (by rfl) T.m_tuple bt_tuple))) (dw_or1 (dt_not (dt_val (de_callB (call_allP rfl) (by rfl) T.m_all bt_all (dls_cons (DE.dl (DF.de (df_lc rfl sc_are_named.nd (di_seqL (dl_var 0)) (blkOk_by (own := [("pair", 1)]) (N := N_are_named) (sc := defScope s_are_named) (by decide +kernel)) (fun _ _ _ _ _ => (dg_name (i := 1) sc_are_named.nd rfl (by first | exact .inl rfl | exact .inr rfl) (by first | exact .inl rfl | exact .inr rfl))) (fun _ _ _ _ _ => dts_nil) (fun _ _ _ _ _ => (de_and (de_call G_is_sized mono_is_sized hr (by rfl) T.g_is_sized T.F_is_sized.kp T.b_is_sized pass0 (dv_cons (de_var 1) (dv_cons de_int (dv_cons de_int dv_nil)))) (de_one (de_call G_is_name mono_is_name hr (by rfl) T.g_is_name T.F_is_name.kp T.b_is_name pass0 (dv_cons (de_ix hu hW (dl_var 1) (DE.dl de_int)) dv_nil))))) (by decide)))) dls_nil))))))) (dss_cons (ds_ret (DE.x de_bl))
  dss_nil) dss_nil)
  (dss_cons (ds_ret (DE.x (de_call G_are_rising mono_are_rising hr (by rfl) T.g_are_rising T.F_are_rising.kp T.b_are_rising pass0 (dv_cons (DF.de (df_lc rfl sc_are_named.nd (di_seqL (dl_var 0)) (blkOk_by (own := [("pair", 1)]) (N := N_are_named) (sc := defScope s_are_named) (by decide +kernel)) (fun _ _ _ _ _ => (dg_name (i := 1) sc_are_named.nd rfl (by first | exact .inl rfl | exact .inr rfl) (by first | exact .inl rfl | exact .inr rfl))) (fun _ _ _ _ _ => dts_nil) (fun _ _ _ _ _ => (de_ix hu hW (dl_var 1) (DE.dl de_int))) (by decide))) dv_nil))))
  dss_nil)), ?_⟩
    rfl
  obtain ⟨t, h1, h2⟩ := h
  rw [← h2]
  exact h1
theorem wk_is_small_node {P : Program} {w : World} {K : PySem.W.Frag} {mg : Str → Option Value} {base : Heap} (T : Txt K mg) (W : Tbs P w base T) {k : Nat}
  {S_is_text : FSpec} (mono_is_text : MonoF S_is_text) (G_is_text : FnG P w K mg base CX0 k T.f_is_text T.d_is_text P_is_text (spD K false S_is_text))
  {S_is_mode : FSpec} (mono_is_mode : MonoF S_is_mode) (G_is_mode : FnG P w K mg base CX0 k T.f_is_mode T.d_is_mode P_is_mode (spD K false S_is_mode))
  (cdv : Value) (A : Around) (outer : List Env) (s : Shared) (H : Hp) (E : XK) (hr : RoomG k (A.deeper (envOfC "is_small_node" (defScope s_is_small_node) s.heap.objs.size T.f_is_small_node cdv))) :
  DSs (cxOf CX0 P w K mg base N_is_small_node "is_small_node" (defScope s_is_small_node) T.f_is_small_node cdv A outer s H E).nox (defBody s_is_small_node) (t_is_small_node S_is_text S_is_mode) := by
  have hu := hu64 hr
  have hu1 := hu1_ hr
  have hW : SameW (cxOf CX0 P w K mg base N_is_small_node "is_small_node" (defScope s_is_small_node) T.f_is_small_node cdv A outer s H E).nox := ⟨W.hp, W.hw⟩
  have h : ∃ t, DSs (cxOf CX0 P w K mg base N_is_small_node "is_small_node" (defScope s_is_small_node) T.f_is_small_node cdv A outer s H E).nox (defBody s_is_small_node) t ∧ t = t_is_small_node S_is_text S_is_mode := by
    refine ⟨_, (dss_cons (ds_if (DW.dt (dw_or (dt_not (dt_val (de_isa isa_tuple (dl_var 0) (by rfl) T.m_isinstance bt_isinstance (by rfl) T.m_tuple bt_tuple))) (dw_or (dt_cmp (op_eqP hu) (DE.dl (de_callB call_lenP (by rfl) T.m_len bt_len (dls_cons (dl_var 0) dls_nil))) (DE.dl de_int)) (dw_or1 (dt_not (dt_val (de_isa isa_str (DE.dl (de_ix hu hW (dl_var 0) (DE.dl de_int))) (by rfl) T.m_isinstance bt_isinstance (by rfl) T.m_str bt_str))))))) (dss_cons (ds_ret (DE.x de_bl))
  dss_nil) dss_nil)
  (dss_cons (ds_if (dt_cmp (op_eqP hu) (DE.dl (de_ix hu hW (dl_var 0) (DE.dl de_int))) (DE.dl (de_gstr (by rfl) T.c_FILE))) (dss_cons (ds_ret (DE.x (de_and (de_cmp (op_eqP hu) (DE.dl (de_callB call_lenP (by rfl) T.m_len bt_len (dls_cons (dl_var 0) dls_nil))) (DE.dl de_int)) (de_and (de_call G_is_text mono_is_text hr (by rfl) T.g_is_text T.F_is_text.kp T.b_is_text pass0 (dv_cons (de_ix hu hW (dl_var 0) (DE.dl de_int)) dv_nil)) (de_one (de_call G_is_mode mono_is_mode hr (by rfl) T.g_is_mode T.F_is_mode.kp T.b_is_mode pass0 (dv_cons (de_ix hu hW (dl_var 0) (DE.dl de_int)) dv_nil)))))))
  dss_nil) dss_nil)
  (dss_cons (ds_ret (DE.x (de_and (de_cmp (op_eqP hu) (DE.dl (de_ix hu hW (dl_var 0) (DE.dl de_int))) (DE.dl (de_gstr (by rfl) T.c_LINK))) (de_and (de_cmp (op_eqP hu) (DE.dl (de_callB call_lenP (by rfl) T.m_len bt_len (dls_cons (dl_var 0) dls_nil))) (DE.dl de_int)) (de_and (de_call G_is_text mono_is_text hr (by rfl) T.g_is_text T.F_is_text.kp T.b_is_text pass0 (dv_cons (de_ix hu hW (dl_var 0) (DE.dl de_int)) dv_nil)) (de_one (de_cmp (op_neP hu) (DE.dl (de_ix hu hW (dl_var 0) (DE.dl de_int))) (DE.dl de_str))))))))
  dss_nil))), ?_⟩
    rfl
  obtain ⟨t, h1, h2⟩ := h
  rw [← h2]
  exact h1
theorem wk_is_folder_node {P : Program} {w : World} {K : PySem.W.Frag} {mg : Str → Option Value} {base : Heap} (T : Txt K mg) (W : Tbs P w base T) {k : Nat}
  {S_is_sized : FSpec} (mono_is_sized : MonoF S_is_sized) (G_is_sized : FnG P w K mg base CX0 k T.f_is_sized T.d_is_sized P_is_sized (spD K false S_is_sized))
  {S_is_mode : FSpec} (mono_is_mode : MonoF S_is_mode) (G_is_mode : FnG P w K mg base CX0 k T.f_is_mode T.d_is_mode P_is_mode (spD K false S_is_mode))
  {S_are_named : FSpec} (mono_are_named : MonoF S_are_named) (G_are_named : FnG P w K mg base CX0 k T.f_are_named T.d_are_named P_are_named (spD K false S_are_named))
  (cdv : Value) (A : Around) (outer : List Env) (s : Shared) (H : Hp) (E : XK) (hr : RoomG k (A.deeper (envOfC "is_folder_node" (defScope s_is_folder_node) s.heap.objs.size T.f_is_folder_node cdv))) :
  DSs (cxOf CX0 P w K mg base N_is_folder_node "is_folder_node" (defScope s_is_folder_node) T.f_is_folder_node cdv A outer s H E).nox (defBody s_is_folder_node) (t_is_folder_node S_is_sized S_is_mode S_are_named) := by
  have hu := hu64 hr
  have hu1 := hu1_ hr
  have hW : SameW (cxOf CX0 P w K mg base N_is_folder_node "is_folder_node" (defScope s_is_folder_node) T.f_is_folder_node cdv A outer s H E).nox := ⟨W.hp, W.hw⟩
  have h : ∃ t, DSs (cxOf CX0 P w K mg base N_is_folder_node "is_folder_node" (defScope s_is_folder_node) T.f_is_folder_node cdv A outer s H E).nox (defBody s_is_folder_node) t ∧ t = t_is_folder_node S_is_sized S_is_mode S_are_named := by
    refine ⟨_, (dss_cons (ds_if (DW.dt (dw_or (dt_not (dt_val (de_call G_is_sized mono_is_sized hr (by rfl) T.g_is_sized T.F_is_sized.kp T.b_is_sized pass0 (dv_cons (de_var 0) (dv_cons de_int (dv_cons de_int dv_nil)))))) (dw_or (dt_not (dt_val (de_isa isa_str (DE.dl (de_ix hu hW (dl_var 0) (DE.dl de_int))) (by rfl) T.m_isinstance bt_isinstance (by rfl) T.m_str bt_str))) (dw_or1 (dt_cmp (op_neP hu) (DE.dl (de_ix hu hW (dl_var 0) (DE.dl de_int))) (DE.dl (de_gstr (by rfl) T.c_FOLDER))))))) (dss_cons (ds_ret (DE.x de_bl))
  dss_nil) dss_nil)
  (dss_cons (ds_ret (DE.x (de_and (de_call G_is_mode mono_is_mode hr (by rfl) T.g_is_mode T.F_is_mode.kp T.b_is_mode pass0 (dv_cons (de_ix hu hW (dl_var 0) (DE.dl de_int)) dv_nil)) (de_one (de_call G_are_named mono_are_named hr (by rfl) T.g_are_named T.F_are_named.kp T.b_are_named pass0 (dv_cons (de_ix hu hW (dl_var 0) (DE.dl de_int)) dv_nil))))))
  dss_nil)), ?_⟩
    rfl
  obtain ⟨t, h1, h2⟩ := h
  rw [← h2]
  exact h1
theorem wk_is_node {P : Program} {w : World} {K : PySem.W.Frag} {mg : Str → Option Value} {base : Heap} (T : Txt K mg) (W : Tbs P w base T) {k : Nat}
  {S_is_small_node : FSpec} (mono_is_small_node : MonoF S_is_small_node) (G_is_small_node : FnG P w K mg base CX0 k T.f_is_small_node T.d_is_small_node P_is_small_node (spD K false S_is_small_node))
  {S_is_folder_node : FSpec} (mono_is_folder_node : MonoF S_is_folder_node) (G_is_folder_node : FnG P w K mg base CX0 k T.f_is_folder_node T.d_is_folder_node P_is_folder_node (spD K false S_is_folder_node))
  (cdv : Value) (A : Around) (outer : List Env) (s : Shared) (H : Hp) (E : XK) (hr : RoomG k (A.deeper (envOfC "is_node" (defScope s_is_node) s.heap.objs.size T.f_is_node cdv))) :
  DSs (cxOf CX0 P w K mg base N_is_node "is_node" (defScope s_is_node) T.f_is_node cdv A outer s H E).nox (defBody s_is_node) (t_is_node S_is_small_node S_is_folder_node) := by
  have hu := hu64 hr
  have hu1 := hu1_ hr
  have hW : SameW (cxOf CX0 P w K mg base N_is_node "is_node" (defScope s_is_node) T.f_is_node cdv A outer s H E).nox := ⟨W.hp, W.hw⟩
  have h : ∃ t, DSs (cxOf CX0 P w K mg base N_is_node "is_node" (defScope s_is_node) T.f_is_node cdv A outer s H E).nox (defBody s_is_node) t ∧ t = t_is_node S_is_small_node S_is_folder_node := by
    refine ⟨_, (dss_cons (ds_par2 (i := 1) (j := 2) rfl sc_is_node.nd rfl rfl (dm_cons (DE.x de_int) (dm_cons (DF.x (df_lst (da_cons (de_tup (da_cons (de_var 0) (da_cons de_int da_nil))) da_nil))) dm_nil)))
  (dss_cons (ds_while PassesOwn.never (dt_tru (dl_var 2)) (dss_cons (ds_unp (de_pop (pv 2)) (dg_tup (n := 2) rfl (dgs_cons (dg_name (i := 3) sc_is_node.nd rfl (by first | exact .inl rfl | exact .inr rfl) (by first | exact .inl rfl | exact .inr rfl)) (dgs_cons (dg_name (i := 4) sc_is_node.nd rfl (by first | exact .inl rfl | exact .inr rfl) (by first | exact .inl rfl | exact .inr rfl)) dgs_nil))))
  (dss_cons (ds_aug (i := 1) sc_is_node.nd rfl de_int)
  (dss_cons (ds_if (DW.dt (dw_or (dt_cmp (op_gtP hu) (dl_var 4) (DE.dl (de_gint (by rfl) T.c_MOST_NAMES))) (dw_or1 (dt_cmp (op_gtP hu) (dl_var 1) (DE.dl (de_gint (by rfl) T.c_MOST_NODES)))))) (dss_cons (ds_ret (DE.x de_bl))
  dss_nil) dss_nil)
  (dss_cons (ds_if (dt_val (de_call G_is_folder_node mono_is_folder_node hr (by rfl) T.g_is_folder_node T.F_is_folder_node.kp T.b_is_folder_node pass0 (dv_cons (de_var 3) dv_nil))) (dss_cons (ds_expr (de_extend (pv 2) (DF.de (df_lc rfl sc_is_node.nd (DI.lo (di_seq (de_ix hu hW (dl_var 3) (DE.dl de_int)))) (blkOk_by (own := [("name", 5), ("inner", 6)]) (N := N_is_node) (sc := defScope s_is_node) (by decide +kernel)) (fun _ _ _ _ _ => (dg_tup (n := 2) rfl (dgs_cons (dg_name (i := 5) sc_is_node.nd rfl (by first | exact .inl rfl | exact .inr rfl) (by first | exact .inl rfl | exact .inr rfl)) (dgs_cons (dg_name (i := 6) sc_is_node.nd rfl (by first | exact .inl rfl | exact .inr rfl) (by first | exact .inl rfl | exact .inr rfl)) dgs_nil)))) (fun _ _ _ _ _ => dts_nil) (fun _ _ _ _ _ => (de_tup (da_cons (de_var 6) (da_cons (de_op op_addD (dl_var 4) (DE.dl de_int)) da_nil)))) (by decide)))))
  dss_nil) (dss_cons (ds_if (dt_not (dt_val (de_call G_is_small_node mono_is_small_node hr (by rfl) T.g_is_small_node T.F_is_small_node.kp T.b_is_small_node pass0 (dv_cons (de_var 3) dv_nil)))) (dss_cons (ds_ret (DE.x de_bl))
  dss_nil) dss_nil)
  dss_nil))
  dss_nil)))))
  (dss_cons (ds_ret (DE.x de_bl))
  dss_nil))), ?_⟩
    rfl
  obtain ⟨t, h1, h2⟩ := h
  rw [← h2]
  exact h1
theorem wk_is_tree {P : Program} {w : World} {K : PySem.W.Frag} {mg : Str → Option Value} {base : Heap} (T : Txt K mg) (W : Tbs P w base T) {k : Nat}
  {S_is_folder_node : FSpec} (mono_is_folder_node : MonoF S_is_folder_node) (G_is_folder_node : FnG P w K mg base CX0 k T.f_is_folder_node T.d_is_folder_node P_is_folder_node (spD K false S_is_folder_node))
  {S_is_node : FSpec} (mono_is_node : MonoF S_is_node) (G_is_node : FnG P w K mg base CX0 k T.f_is_node T.d_is_node P_is_node (spD K false S_is_node))
  (cdv : Value) (A : Around) (outer : List Env) (s : Shared) (H : Hp) (E : XK) (hr : RoomG k (A.deeper (envOfC "is_tree" (defScope s_is_tree) s.heap.objs.size T.f_is_tree cdv))) :
  DSs (cxOf CX0 P w K mg base N_is_tree "is_tree" (defScope s_is_tree) T.f_is_tree cdv A outer s H E).nox (defBody s_is_tree) (t_is_tree S_is_folder_node S_is_node) := by
  have hu := hu64 hr
  have hu1 := hu1_ hr
  have hW : SameW (cxOf CX0 P w K mg base N_is_tree "is_tree" (defScope s_is_tree) T.f_is_tree cdv A outer s H E).nox := ⟨W.hp, W.hw⟩
  have h : ∃ t, DSs (cxOf CX0 P w K mg base N_is_tree "is_tree" (defScope s_is_tree) T.f_is_tree cdv A outer s H E).nox (defBody s_is_tree) t ∧ t = t_is_tree S_is_folder_node S_is_node := by
    refine ⟨_, (dss_cons (ds_ret (DE.x (de_and (de_call G_is_folder_node mono_is_folder_node hr (by rfl) T.g_is_folder_node T.F_is_folder_node.kp T.b_is_folder_node pass0 (dv_cons (de_var 0) dv_nil)) (de_one (de_call G_is_node mono_is_node hr (by rfl) T.g_is_node T.F_is_node.kp T.b_is_node pass0 (dv_cons (de_var 0) dv_nil))))))
  dss_nil), ?_⟩
    rfl
  obtain ⟨t, h1, h2⟩ := h
  rw [← h2]
  exact h1
theorem wk_check_tree {P : Program} {w : World} {K : PySem.W.Frag} {mg : Str → Option Value} {base : Heap} (T : Txt K mg) (W : Tbs P w base T) {k : Nat}
  {S_is_tree : FSpec} (mono_is_tree : MonoF S_is_tree) (G_is_tree : FnG P w K mg base CX0 k T.f_is_tree T.d_is_tree P_is_tree (spD K false S_is_tree))
  (cdv : Value) (A : Around) (outer : List Env) (s : Shared) (H : Hp) (E : XK) (hr : RoomG k (A.deeper (envOfC "check_tree" (defScope s_check_tree) s.heap.objs.size T.f_check_tree cdv))) :
  DSs (cxOf CX0 P w K mg base N_check_tree "check_tree" (defScope s_check_tree) T.f_check_tree cdv A outer s H E).nox (defBody s_check_tree) (t_check_tree S_is_tree) := by
  have hu := hu64 hr
  have hu1 := hu1_ hr
  have hW : SameW (cxOf CX0 P w K mg base N_check_tree "check_tree" (defScope s_check_tree) T.f_check_tree cdv A outer s H E).nox := ⟨W.hp, W.hw⟩
  have h : ∃ t, DSs (cxOf CX0 P w K mg base N_check_tree "check_tree" (defScope s_check_tree) T.f_check_tree cdv A outer s H E).nox (defBody s_check_tree) t ∧ t = t_check_tree S_is_tree := by
    refine ⟨_, (dss_cons (ds_if (dt_not (dt_val (de_call G_is_tree mono_is_tree hr (by rfl) T.g_is_tree T.F_is_tree.kp T.b_is_tree pass0 (dv_cons (de_var 0) dv_nil)))) (dss_cons ds_never
  dss_nil) dss_nil)
  dss_nil), ?_⟩
    rfl
  obtain ⟨t, h1, h2⟩ := h
  rw [← h2]
  exact h1
theorem wk_kind_of {P : Program} {w : World} {K : PySem.W.Frag} {mg : Str → Option Value} {base : Heap} (T : Txt K mg) (W : Tbs P w base T) {k : Nat}
  (cdv : Value) (A : Around) (outer : List Env) (s : Shared) (H : Hp) (E : XK) (hr : RoomG k (A.deeper (envOfC "kind_of" (defScope s_kind_of) s.heap.objs.size T.f_kind_of cdv))) :
  DSs (cxOf CX0 P w K mg base N_kind_of "kind_of" (defScope s_kind_of) T.f_kind_of cdv A outer s H E).nox (defBody s_kind_of) t_kind_of := by
  have hu := hu64 hr
  have hu1 := hu1_ hr
  have hW : SameW (cxOf CX0 P w K mg base N_kind_of "kind_of" (defScope s_kind_of) T.f_kind_of cdv A outer s H E).nox := ⟨W.hp, W.hw⟩
  have h : ∃ t, DSs (cxOf CX0 P w K mg base N_kind_of "kind_of" (defScope s_kind_of) T.f_kind_of cdv A outer s H E).nox (defBody s_kind_of) t ∧ t = t_kind_of := by
    refine ⟨_, (dss_cons (ds_ret (DE.x (de_if (dt_cmp op_isP (dl_var 0) (DE.dl de_non)) (de_gstr (by rfl) T.c_NONE) (de_ix hu hW (dl_var 0) (DE.dl de_int)))))
  dss_nil), ?_⟩
    rfl
  obtain ⟨t, h1, h2⟩ := h
  rw [← h2]
  exact h1
theorem wk_nodes_in {P : Program} {w : World} {K : PySem.W.Frag} {mg : Str → Option Value} {base : Heap} (T : Txt K mg) (W : Tbs P w base T) {k : Nat}
  (cdv : Value) (A : Around) (outer : List Env) (s : Shared) (H : Hp) (E : XK) (hr : RoomG k (A.deeper (envOfC "nodes_in" (defScope s_nodes_in) s.heap.objs.size T.f_nodes_in cdv))) :
  DSs (cxOf CX0 P w K mg base N_nodes_in "nodes_in" (defScope s_nodes_in) T.f_nodes_in cdv A outer s H E).nox (defBody s_nodes_in) t_nodes_in := by
  have hu := hu64 hr
  have hu1 := hu1_ hr
  have hW : SameW (cxOf CX0 P w K mg base N_nodes_in "nodes_in" (defScope s_nodes_in) T.f_nodes_in cdv A outer s H E).nox := ⟨W.hp, W.hw⟩
  have h : ∃ t, DSs (cxOf CX0 P w K mg base N_nodes_in "nodes_in" (defScope s_nodes_in) T.f_nodes_in cdv A outer s H E).nox (defBody s_nodes_in) t ∧ t = t_nodes_in := by
    refine ⟨_, (dss_cons (ds_par2 (i := 1) (j := 2) rfl sc_nodes_in.nd rfl rfl (dm_cons (DF.x (df_lst da_nil)) (dm_cons (DF.x (df_lst (da_cons (de_tup (da_cons (de_tup da_nil) (da_cons (de_var 0) da_nil))) da_nil))) dm_nil)))
  (dss_cons (ds_while PassesOwn.never (dt_tru (dl_var 2)) (dss_cons (ds_unp (de_pop (pv 2)) (dg_tup (n := 2) rfl (dgs_cons (dg_name (i := 3) sc_nodes_in.nd rfl (by first | exact .inl rfl | exact .inr rfl) (by first | exact .inl rfl | exact .inr rfl)) (dgs_cons (dg_name (i := 4) sc_nodes_in.nd rfl (by first | exact .inl rfl | exact .inr rfl) (by first | exact .inl rfl | exact .inr rfl)) dgs_nil))))
  (dss_cons (ds_expr (de_append (pv 1) (de_tup (da_cons (de_var 3) (da_cons (de_var 4) da_nil)))))
  (dss_cons (ds_if (dt_cmp (op_eqP hu) (DE.dl (de_ix hu hW (dl_var 4) (DE.dl de_int))) (DE.dl (de_gstr (by rfl) T.c_FOLDER))) (dss_cons (ds_expr (de_extend (pv 2) (DF.de (df_lc rfl sc_nodes_in.nd (DI.lo (di_seq (de_rev (DE.dl (de_ix hu hW (dl_var 4) (DE.dl de_int)))))) (blkOk_by (own := [("name", 5), ("inner", 6)]) (N := N_nodes_in) (sc := defScope s_nodes_in) (by decide +kernel)) (fun _ _ _ _ _ => (dg_tup (n := 2) rfl (dgs_cons (dg_name (i := 5) sc_nodes_in.nd rfl (by first | exact .inl rfl | exact .inr rfl) (by first | exact .inl rfl | exact .inr rfl)) (dgs_cons (dg_name (i := 6) sc_nodes_in.nd rfl (by first | exact .inl rfl | exact .inr rfl) (by first | exact .inl rfl | exact .inr rfl)) dgs_nil)))) (fun _ _ _ _ _ => dts_nil) (fun _ _ _ _ _ => (de_tup (da_cons (de_op op_addD (dl_var 3) (DE.dl (de_tup (da_cons (de_var 5) da_nil)))) (da_cons (de_var 6) da_nil)))) (by decide)))))
  dss_nil) dss_nil)
  dss_nil))))
  (dss_cons (ds_retV (pv 1))
  dss_nil))), ?_⟩
    rfl
  obtain ⟨t, h1, h2⟩ := h
  rw [← h2]
  exact h1
theorem wk_is_folder_mark {P : Program} {w : World} {K : PySem.W.Frag} {mg : Str → Option Value} {base : Heap} (T : Txt K mg) (W : Tbs P w base T) {k : Nat}
  {S_is_flag : FSpec} (mono_is_flag : MonoF S_is_flag) (G_is_flag : FnG P w K mg base CX0 k T.f_is_flag T.d_is_flag P_is_flag (spD K false S_is_flag))
  {S_is_sized : FSpec} (mono_is_sized : MonoF S_is_sized) (G_is_sized : FnG P w K mg base CX0 k T.f_is_sized T.d_is_sized P_is_sized (spD K false S_is_sized))
  {S_is_mode : FSpec} (mono_is_mode : MonoF S_is_mode) (G_is_mode : FnG P w K mg base CX0 k T.f_is_mode T.d_is_mode P_is_mode (spD K false S_is_mode))
  {S_are_named : FSpec} (mono_are_named : MonoF S_are_named) (G_are_named : FnG P w K mg base CX0 k T.f_are_named T.d_are_named P_are_named (spD K false S_are_named))
  (cdv : Value) (A : Around) (outer : List Env) (s : Shared) (H : Hp) (E : XK) (hr : RoomG k (A.deeper (envOfC "is_folder_mark" (defScope s_is_folder_mark) s.heap.objs.size T.f_is_folder_mark cdv))) :
  DSs (cxOf CX0 P w K mg base N_is_folder_mark "is_folder_mark" (defScope s_is_folder_mark) T.f_is_folder_mark cdv A outer s H E).nox (defBody s_is_folder_mark) (t_is_folder_mark S_is_flag S_is_sized S_is_mode S_are_named) := by
  have hu := hu64 hr
  have hu1 := hu1_ hr
  have hW : SameW (cxOf CX0 P w K mg base N_is_folder_mark "is_folder_mark" (defScope s_is_folder_mark) T.f_is_folder_mark cdv A outer s H E).nox := ⟨W.hp, W.hw⟩
  have h : ∃ t, DSs (cxOf CX0 P w K mg base N_is_folder_mark "is_folder_mark" (defScope s_is_folder_mark) T.f_is_folder_mark cdv A outer s H E).nox (defBody s_is_folder_mark) t ∧ t = t_is_folder_mark S_is_flag S_is_sized S_is_mode S_are_named := by
    refine ⟨_, (dss_cons (ds_if (DW.dt (dw_or (dt_not (dt_val (de_call G_is_sized mono_is_sized hr (by rfl) T.g_is_sized T.F_is_sized.kp T.b_is_sized pass0 (dv_cons (de_var 0) (dv_cons de_int (dv_cons de_int dv_nil)))))) (dw_or (dt_not (dt_val (de_isa isa_str (DE.dl (de_ix hu hW (dl_var 0) (DE.dl de_int))) (by rfl) T.m_isinstance bt_isinstance (by rfl) T.m_str bt_str))) (dw_or1 (dt_cmp (op_neP hu) (DE.dl (de_ix hu hW (dl_var 0) (DE.dl de_int))) (DE.dl (de_gstr (by rfl) T.c_FOLDER))))))) (dss_cons (ds_ret (DE.x de_bl))
  dss_nil) dss_nil)
  (dss_cons (ds_ret (DE.x (de_and (de_call G_is_mode mono_is_mode hr (by rfl) T.g_is_mode T.F_is_mode.kp T.b_is_mode pass0 (dv_cons (de_ix hu hW (dl_var 0) (DE.dl de_int)) dv_nil)) (de_and (de_call G_are_named mono_are_named hr (by rfl) T.g_are_named T.F_are_named.kp T.b_are_named pass0 (dv_cons (de_ix hu hW (dl_var 0) (DE.dl de_int)) dv_nil)) (de_one (de_call G_is_flag mono_is_flag hr (by rfl) T.g_is_flag T.F_is_flag.kp T.b_is_flag pass0 (dv_cons (de_ix hu hW (dl_var 0) (DE.dl de_int)) dv_nil)))))))
  dss_nil)), ?_⟩
    rfl
  obtain ⟨t, h1, h2⟩ := h
  rw [← h2]
  exact h1
theorem wk_is_gone {P : Program} {w : World} {K : PySem.W.Frag} {mg : Str → Option Value} {base : Heap} (T : Txt K mg) (W : Tbs P w base T) {k : Nat}
  {S_is_sized : FSpec} (mono_is_sized : MonoF S_is_sized) (G_is_sized : FnG P w K mg base CX0 k T.f_is_sized T.d_is_sized P_is_sized (spD K false S_is_sized))
  (cdv : Value) (A : Around) (outer : List Env) (s : Shared) (H : Hp) (E : XK) (hr : RoomG k (A.deeper (envOfC "is_gone" (defScope s_is_gone) s.heap.objs.size T.f_is_gone cdv))) :
  DSs (cxOf CX0 P w K mg base N_is_gone "is_gone" (defScope s_is_gone) T.f_is_gone cdv A outer s H E).nox (defBody s_is_gone) (t_is_gone S_is_sized) := by
  have hu := hu64 hr
  have hu1 := hu1_ hr
  have hW : SameW (cxOf CX0 P w K mg base N_is_gone "is_gone" (defScope s_is_gone) T.f_is_gone cdv A outer s H E).nox := ⟨W.hp, W.hw⟩
  have h : ∃ t, DSs (cxOf CX0 P w K mg base N_is_gone "is_gone" (defScope s_is_gone) T.f_is_gone cdv A outer s H E).nox (defBody s_is_gone) t ∧ t = t_is_gone S_is_sized := by
    refine ⟨_, (dss_cons (ds_ret (DE.x (de_and (de_call G_is_sized mono_is_sized hr (by rfl) T.g_is_sized T.F_is_sized.kp T.b_is_sized pass0 (dv_cons (de_var 0) (dv_cons de_int (dv_cons de_int dv_nil)))) (de_and (de_isa isa_str (DE.dl (de_ix hu hW (dl_var 0) (DE.dl de_int))) (by rfl) T.m_isinstance bt_isinstance (by rfl) T.m_str bt_str) (de_one (de_cmp (op_eqP hu) (DE.dl (de_ix hu hW (dl_var 0) (DE.dl de_int))) (DE.dl (de_gstr (by rfl) T.c_GONE))))))))
  dss_nil), ?_⟩
    rfl
  obtain ⟨t, h1, h2⟩ := h
  rw [← h2]
  exact h1
theorem wk_is_layer {P : Program} {w : World} {K : PySem.W.Frag} {mg : Str → Option Value} {base : Heap} (T : Txt K mg) (W : Tbs P w base T) {k : Nat}
  {S_is_small_node : FSpec} (mono_is_small_node : MonoF S_is_small_node) (G_is_small_node : FnG P w K mg base CX0 k T.f_is_small_node T.d_is_small_node P_is_small_node (spD K false S_is_small_node))
  {S_is_folder_mark : FSpec} (mono_is_folder_mark : MonoF S_is_folder_mark) (G_is_folder_mark : FnG P w K mg base CX0 k T.f_is_folder_mark T.d_is_folder_mark P_is_folder_mark (spD K false S_is_folder_mark))
  {S_is_gone : FSpec} (mono_is_gone : MonoF S_is_gone) (G_is_gone : FnG P w K mg base CX0 k T.f_is_gone T.d_is_gone P_is_gone (spD K false S_is_gone))
  (cdv : Value) (A : Around) (outer : List Env) (s : Shared) (H : Hp) (E : XK) (hr : RoomG k (A.deeper (envOfC "is_layer" (defScope s_is_layer) s.heap.objs.size T.f_is_layer cdv))) :
  DSs (cxOf CX0 P w K mg base N_is_layer "is_layer" (defScope s_is_layer) T.f_is_layer cdv A outer s H E).nox (defBody s_is_layer) (t_is_layer S_is_small_node S_is_folder_mark S_is_gone) := by
  have hu := hu64 hr
  have hu1 := hu1_ hr
  have hW : SameW (cxOf CX0 P w K mg base N_is_layer "is_layer" (defScope s_is_layer) T.f_is_layer cdv A outer s H E).nox := ⟨W.hp, W.hw⟩
  have h : ∃ t, DSs (cxOf CX0 P w K mg base N_is_layer "is_layer" (defScope s_is_layer) T.f_is_layer cdv A outer s H E).nox (defBody s_is_layer) t ∧ t = t_is_layer S_is_small_node S_is_folder_mark S_is_gone := by
    refine ⟨_, (dss_cons (ds_if (dt_not (dt_val (de_call G_is_folder_mark mono_is_folder_mark hr (by rfl) T.g_is_folder_mark T.F_is_folder_mark.kp T.b_is_folder_mark pass0 (dv_cons (de_var 0) dv_nil)))) (dss_cons (ds_ret (DE.x de_bl))
  dss_nil) dss_nil)
  (dss_cons (ds_par2 (i := 1) (j := 2) rfl sc_is_layer.nd rfl rfl (dm_cons (DE.x de_int) (dm_cons (DF.x (df_lst (da_cons (de_tup (da_cons (de_var 0) (da_cons de_int da_nil))) da_nil))) dm_nil)))
  (dss_cons (ds_while PassesOwn.never (dt_tru (dl_var 2)) (dss_cons (ds_unp (de_pop (pv 2)) (dg_tup (n := 2) rfl (dgs_cons (dg_name (i := 3) sc_is_layer.nd rfl (by first | exact .inl rfl | exact .inr rfl) (by first | exact .inl rfl | exact .inr rfl)) (dgs_cons (dg_name (i := 4) sc_is_layer.nd rfl (by first | exact .inl rfl | exact .inr rfl) (by first | exact .inl rfl | exact .inr rfl)) dgs_nil))))
  (dss_cons (ds_aug (i := 1) sc_is_layer.nd rfl de_int)
  (dss_cons (ds_if (DW.dt (dw_or (dt_cmp (op_gtP hu) (dl_var 4) (DE.dl (de_gint (by rfl) T.c_MOST_NAMES))) (dw_or1 (dt_cmp (op_gtP hu) (dl_var 1) (DE.dl (de_gint (by rfl) T.c_MOST_NODES)))))) (dss_cons (ds_ret (DE.x de_bl))
  dss_nil) dss_nil)
  (dss_cons (ds_if (dt_val (de_call G_is_folder_mark mono_is_folder_mark hr (by rfl) T.g_is_folder_mark T.F_is_folder_mark.kp T.b_is_folder_mark pass0 (dv_cons (de_var 3) dv_nil))) (dss_cons (ds_if (DW.dt (dw_and (dt_tru (DE.dl (de_ix hu hW (dl_var 3) (DE.dl de_int)))) (dw_and1 (dt_cmp (op_eqP hu) (dl_var 4) (DE.dl (de_gint (by rfl) T.c_MOST_NAMES)))))) (dss_cons (ds_ret (DE.x de_bl))
  dss_nil) dss_nil)
  (dss_cons (ds_expr (de_extend (pv 2) (DF.de (df_lc rfl sc_is_layer.nd (DI.lo (di_seq (de_ix hu hW (dl_var 3) (DE.dl de_int)))) (blkOk_by (own := [("name", 5), ("inner", 6)]) (N := N_is_layer) (sc := defScope s_is_layer) (by decide +kernel)) (fun _ _ _ _ _ => (dg_tup (n := 2) rfl (dgs_cons (dg_name (i := 5) sc_is_layer.nd rfl (by first | exact .inl rfl | exact .inr rfl) (by first | exact .inl rfl | exact .inr rfl)) (dgs_cons (dg_name (i := 6) sc_is_layer.nd rfl (by first | exact .inl rfl | exact .inr rfl) (by first | exact .inl rfl | exact .inr rfl)) dgs_nil)))) (fun _ _ _ _ _ => dts_nil) (fun _ _ _ _ _ => (de_tup (da_cons (de_var 6) (da_cons (de_op op_addD (dl_var 4) (DE.dl de_int)) da_nil)))) (by decide)))))
  dss_nil)) (dss_cons (ds_if (DW.dt (dw_and (dt_not (dt_val (de_call G_is_gone mono_is_gone hr (by rfl) T.g_is_gone T.F_is_gone.kp T.b_is_gone pass0 (dv_cons (de_var 3) dv_nil)))) (dw_and1 (dt_not (dt_val (de_call G_is_small_node mono_is_small_node hr (by rfl) T.g_is_small_node T.F_is_small_node.kp T.b_is_small_node pass0 (dv_cons (de_var 3) dv_nil))))))) (dss_cons (ds_ret (DE.x de_bl))
  dss_nil) dss_nil)
  dss_nil))
  dss_nil)))))
  (dss_cons (ds_ret (DE.x de_bl))
  dss_nil)))), ?_⟩
    rfl
  obtain ⟨t, h1, h2⟩ := h
  rw [← h2]
  exact h1
theorem wk_check_layer {P : Program} {w : World} {K : PySem.W.Frag} {mg : Str → Option Value} {base : Heap} (T : Txt K mg) (W : Tbs P w base T) {k : Nat}
  {S_is_layer : FSpec} (mono_is_layer : MonoF S_is_layer) (G_is_layer : FnG P w K mg base CX0 k T.f_is_layer T.d_is_layer P_is_layer (spD K false S_is_layer))
  (cdv : Value) (A : Around) (outer : List Env) (s : Shared) (H : Hp) (E : XK) (hr : RoomG k (A.deeper (envOfC "check_layer" (defScope s_check_layer) s.heap.objs.size T.f_check_layer cdv))) :
  DSs (cxOf CX0 P w K mg base N_check_layer "check_layer" (defScope s_check_layer) T.f_check_layer cdv A outer s H E).nox (defBody s_check_layer) (t_check_layer S_is_layer) := by
  have hu := hu64 hr
  have hu1 := hu1_ hr
  have hW : SameW (cxOf CX0 P w K mg base N_check_layer "check_layer" (defScope s_check_layer) T.f_check_layer cdv A outer s H E).nox := ⟨W.hp, W.hw⟩
  have h : ∃ t, DSs (cxOf CX0 P w K mg base N_check_layer "check_layer" (defScope s_check_layer) T.f_check_layer cdv A outer s H E).nox (defBody s_check_layer) t ∧ t = t_check_layer S_is_layer := by
    refine ⟨_, (dss_cons (ds_if (dt_not (dt_val (de_call G_is_layer mono_is_layer hr (by rfl) T.g_is_layer T.F_is_layer.kp T.b_is_layer pass0 (dv_cons (de_var 0) dv_nil)))) (dss_cons ds_never
  dss_nil) dss_nil)
  dss_nil), ?_⟩
    rfl
  obtain ⟨t, h1, h2⟩ := h
  rw [← h2]
  exact h1
theorem wk_made_folder {P : Program} {w : World} {K : PySem.W.Frag} {mg : Str → Option Value} {base : Heap} (T : Txt K mg) (W : Tbs P w base T) {k : Nat}
  {S_kind_of : FSpec} (mono_kind_of : MonoF S_kind_of) (G_kind_of : FnG P w K mg base CX0 k T.f_kind_of T.d_kind_of P_kind_of (spD K false S_kind_of))
  {S_made_folder : FSpec} (mono_made_folder : MonoF S_made_folder) (G_made_folder : FnG P w K mg base CX0 k T.f_made_folder T.d_made_folder P_made_folder (spD K false S_made_folder))
  (A : Around) (outer : List Env) (s : Shared) (H : Hp) (E : XK) (hr : RoomG k (A.deeper (envOfC "made_folder" (defScope s_made_folder) s.heap.objs.size T.f_made_folder (.ref T.c_made_folder)))) :
  DSs (cxOf CX0 P w K mg base N_made_folder "made_folder" (defScope s_made_folder) T.f_made_folder (.ref T.c_made_folder) A outer s H E).nox (defBody s_made_folder) (t_made_folder S_kind_of S_made_folder) := by
  have hu := hu64 hr
  have hu1 := hu1_ hr
  have hW : SameW (cxOf CX0 P w K mg base N_made_folder "made_folder" (defScope s_made_folder) T.f_made_folder (.ref T.c_made_folder) A outer s H E).nox := ⟨W.hp, W.hw⟩
  have h : ∃ t, DSs (cxOf CX0 P w K mg base N_made_folder "made_folder" (defScope s_made_folder) T.f_made_folder (.ref T.c_made_folder) A outer s H E).nox (defBody s_made_folder) t ∧ t = t_made_folder S_kind_of S_made_folder := by
    refine ⟨_, (dss_cons (ds_set (i := 2) sc_made_folder.nd rfl (DF.x df_dicK) (by first | exact .inl rfl | exact .inr rfl))
  (dss_cons (ds_if (DW.dt (dw_and (dt_cmp (op_eqP hu) (DE.dl (de_call G_kind_of mono_kind_of hr (by rfl) T.g_kind_of T.F_kind_of.kp T.b_kind_of pass0 (dv_cons (de_var 1) dv_nil))) (DE.dl (de_gstr (by rfl) T.c_FOLDER))) (dw_and1 (dt_not (dt_tru (DE.dl (de_ix hu hW (dl_var 0) (DE.dl de_int)))))))) (dss_cons (ds_expr (de_dupd (pv 2) (DF.de (df_dictA (k := false) rfl hu hW (DE.dl (de_ix hu hW (dl_var 1) (DE.dl de_int))) (by rfl) T.m_dict)) ⟨rfl, rfl, rfl, rfl⟩))
  dss_nil) dss_nil)
  (dss_cons (ds_for PassesOwn.never rfl (di_seq (de_ix hu hW (dl_var 0) (DE.dl de_int))) (dg_tup (n := 2) rfl (dgs_cons (dg_name (i := 3) sc_made_folder.nd rfl (by first | exact .inl rfl | exact .inr rfl) (by first | exact .inl rfl | exact .inr rfl)) (dgs_cons (dg_name (i := 4) sc_made_folder.nd rfl (by first | exact .inl rfl | exact .inr rfl) (by first | exact .inl rfl | exact .inr rfl)) dgs_nil))) (dss_cons (ds_if (dt_cmp (op_eqP hu) (DE.dl (de_ix hu hW (dl_var 4) (DE.dl de_int))) (DE.dl (de_gstr (by rfl) T.c_GONE))) (dss_cons (ds_expr (de_dpop (pv 2) (de_var 3) de_non ⟨rfl, rfl, rfl, rfl⟩))
  dss_nil) (dss_cons (ds_if (dt_cmp (op_eqP hu) (DE.dl (de_ix hu hW (dl_var 4) (DE.dl de_int))) (DE.dl (de_gstr (by rfl) T.c_FOLDER))) (dss_cons (ds_put hu1 hW (de_call G_made_folder mono_made_folder hr (by rfl) T.g_made_folder T.F_made_folder.kp T.b_made_folder pass0 (dv_cons (de_var 4) (dv_cons (de_get2 hu1 hW (dl_var 2) (de_var 3) de_non ⟨rfl, rfl, rfl, rfl⟩) dv_nil))) (pv 2) (de_var 3))
  dss_nil) (dss_cons (ds_put hu1 hW (de_var 4) (pv 2) (de_var 3))
  dss_nil))
  dss_nil))
  dss_nil))
  (dss_cons (ds_ret (DE.x (de_tup (da_cons (de_gstr (by rfl) T.c_FOLDER) (da_cons (de_ix hu hW (dl_var 0) (DE.dl de_int)) (da_cons (de_callTy call_tupleP (by rfl) T.m_tuple bt_tuple (dls_cons (DE.dl (DF.de (df_sortKey0 (c := T.c_made_folder) (P := T.p_made_folder) (y := "pair") (DE.dl (de_items rfl (dl_var 2) (by rfl) T.m_list)) hr hu (by rfl) T.m_sorted W.b_made_folder rfl T.tm_made_folder T.tu_made_folder rfl (fun z hz e => by rw [List.mem_singleton.mp hz] at e; cases e) rfl rfl rfl (by decide +kernel) rfl (by decide) (fun _ _ _ _ _ _ => rfl)))) dls_nil)) da_nil))))))
  dss_nil)))), ?_⟩
    rfl
  obtain ⟨t, h1, h2⟩ := h
  rw [← h2]
  exact h1
theorem wk_check_many {P : Program} {w : World} {K : PySem.W.Frag} {mg : Str → Option Value} {base : Heap} (T : Txt K mg) (W : Tbs P w base T) {k : Nat}
  {S_nodes_in : FSpec} (mono_nodes_in : MonoF S_nodes_in) (G_nodes_in : FnG P w K mg base CX0 k T.f_nodes_in T.d_nodes_in P_nodes_in (spD K false S_nodes_in))
  (cdv : Value) (A : Around) (outer : List Env) (s : Shared) (H : Hp) (E : XK) (hr : RoomG k (A.deeper (envOfC "check_many" (defScope s_check_many) s.heap.objs.size T.f_check_many cdv))) :
  DSs (cxOf CX0 P w K mg base N_check_many "check_many" (defScope s_check_many) T.f_check_many cdv A outer s H E).nox (defBody s_check_many) (t_check_many S_nodes_in) := by
  have hu := hu64 hr
  have hu1 := hu1_ hr
  have hW : SameW (cxOf CX0 P w K mg base N_check_many "check_many" (defScope s_check_many) T.f_check_many cdv A outer s H E).nox := ⟨W.hp, W.hw⟩
  have h : ∃ t, DSs (cxOf CX0 P w K mg base N_check_many "check_many" (defScope s_check_many) T.f_check_many cdv A outer s H E).nox (defBody s_check_many) t ∧ t = t_check_many S_nodes_in := by
    refine ⟨_, (dss_cons (ds_if (dt_cmp (op_gtP hu) (DE.dl (de_callB call_lenP (by rfl) T.m_len bt_len (dls_cons (DE.dl (de_call G_nodes_in mono_nodes_in hr (by rfl) T.g_nodes_in T.F_nodes_in.kp T.b_nodes_in pass0 (dv_cons (de_var 0) dv_nil))) dls_nil))) (DE.dl (de_gint (by rfl) T.c_MOST_NODES))) (dss_cons ds_never
  dss_nil) dss_nil)
  (dss_cons (ds_ret (DE.x (de_var 0)))
  dss_nil)), ?_⟩
    rfl
  obtain ⟨t, h1, h2⟩ := h
  rw [← h2]
  exact h1
theorem wk_raw_made {P : Program} {w : World} {K : PySem.W.Frag} {mg : Str → Option Value} {base : Heap} (T : Txt K mg) (W : Tbs P w base T) {k : Nat}
  {S_made_folder : FSpec} (mono_made_folder : MonoF S_made_folder) (G_made_folder : FnG P w K mg base CX0 k T.f_made_folder T.d_made_folder P_made_folder (spD K false S_made_folder))
  {S_check_many : FSpec} (mono_check_many : MonoF S_check_many) (G_check_many : FnG P w K mg base CX0 k T.f_check_many T.d_check_many P_check_many (spD K false S_check_many))
  (cdv : Value) (A : Around) (outer : List Env) (s : Shared) (H : Hp) (E : XK) (hr : RoomG k (A.deeper (envOfC "raw_made" (defScope s_raw_made) s.heap.objs.size T.f_raw_made cdv))) :
  DSs (cxOf CX0 P w K mg base N_raw_made "raw_made" (defScope s_raw_made) T.f_raw_made cdv A outer s H E).nox (defBody s_raw_made) (t_raw_made S_made_folder S_check_many) := by
  have hu := hu64 hr
  have hu1 := hu1_ hr
  have hW : SameW (cxOf CX0 P w K mg base N_raw_made "raw_made" (defScope s_raw_made) T.f_raw_made cdv A outer s H E).nox := ⟨W.hp, W.hw⟩
  have h : ∃ t, DSs (cxOf CX0 P w K mg base N_raw_made "raw_made" (defScope s_raw_made) T.f_raw_made cdv A outer s H E).nox (defBody s_raw_made) t ∧ t = t_raw_made S_made_folder S_check_many := by
    refine ⟨_, (dss_cons (ds_ret (DE.x (de_call G_check_many mono_check_many hr (by rfl) T.g_check_many T.F_check_many.kp T.b_check_many pass0 (dv_cons (de_call G_made_folder mono_made_folder hr (by rfl) T.g_made_folder T.F_made_folder.kp T.b_made_folder pass0 (dv_cons (de_var 0) (dv_cons (de_var 1) dv_nil))) dv_nil))))
  dss_nil), ?_⟩
    rfl
  obtain ⟨t, h1, h2⟩ := h
  rw [← h2]
  exact h1
theorem wk_made {P : Program} {w : World} {K : PySem.W.Frag} {mg : Str → Option Value} {base : Heap} (T : Txt K mg) (W : Tbs P w base T) {k : Nat}
  {S_check_tree : FSpec} (mono_check_tree : MonoF S_check_tree) (G_check_tree : FnG P w K mg base CX0 k T.f_check_tree T.d_check_tree P_check_tree (spD K false S_check_tree))
  {S_check_layer : FSpec} (mono_check_layer : MonoF S_check_layer) (G_check_layer : FnG P w K mg base CX0 k T.f_check_layer T.d_check_layer P_check_layer (spD K false S_check_layer))
  {S_raw_made : FSpec} (mono_raw_made : MonoF S_raw_made) (G_raw_made : FnG P w K mg base CX0 k T.f_raw_made T.d_raw_made P_raw_made (spD K false S_raw_made))
  (cdv : Value) (A : Around) (outer : List Env) (s : Shared) (H : Hp) (E : XK) (hr : RoomG k (A.deeper (envOfC "made" (defScope s_made) s.heap.objs.size T.f_made cdv))) :
  DSs (cxOf CX0 P w K mg base N_made "made" (defScope s_made) T.f_made cdv A outer s H E).nox (defBody s_made) (t_made S_check_tree S_check_layer S_raw_made) := by
  have hu := hu64 hr
  have hu1 := hu1_ hr
  have hW : SameW (cxOf CX0 P w K mg base N_made "made" (defScope s_made) T.f_made cdv A outer s H E).nox := ⟨W.hp, W.hw⟩
  have h : ∃ t, DSs (cxOf CX0 P w K mg base N_made "made" (defScope s_made) T.f_made cdv A outer s H E).nox (defBody s_made) t ∧ t = t_made S_check_tree S_check_layer S_raw_made := by
    refine ⟨_, (dss_cons (ds_expr (de_call G_check_layer mono_check_layer hr (by rfl) T.g_check_layer T.F_check_layer.kp T.b_check_layer pass0 (dv_cons (de_var 0) dv_nil)))
  (dss_cons (ds_expr (de_call G_check_tree mono_check_tree hr (by rfl) T.g_check_tree T.F_check_tree.kp T.b_check_tree pass0 (dv_cons (de_var 1) dv_nil)))
  (dss_cons (ds_ret (DE.x (de_call G_raw_made mono_raw_made hr (by rfl) T.g_raw_made T.F_raw_made.kp T.b_raw_made pass0 (dv_cons (de_var 0) (dv_cons (de_var 1) dv_nil)))))
  dss_nil))), ?_⟩
    rfl
  obtain ⟨t, h1, h2⟩ := h
  rw [← h2]
  exact h1
theorem wk_all_marks {P : Program} {w : World} {K : PySem.W.Frag} {mg : Str → Option Value} {base : Heap} (T : Txt K mg) (W : Tbs P w base T) {k : Nat}
  (cdv : Value) (A : Around) (outer : List Env) (s : Shared) (H : Hp) (E : XK) (hr : RoomG k (A.deeper (envOfC "all_marks" (defScope s_all_marks) s.heap.objs.size T.f_all_marks cdv))) :
  DSs (cxOf CX0 P w K mg base N_all_marks "all_marks" (defScope s_all_marks) T.f_all_marks cdv A outer s H E).nox (defBody s_all_marks) t_all_marks := by
  have hu := hu64 hr
  have hu1 := hu1_ hr
  have hW : SameW (cxOf CX0 P w K mg base N_all_marks "all_marks" (defScope s_all_marks) T.f_all_marks cdv A outer s H E).nox := ⟨W.hp, W.hw⟩
  have h : ∃ t, DSs (cxOf CX0 P w K mg base N_all_marks "all_marks" (defScope s_all_marks) T.f_all_marks cdv A outer s H E).nox (defBody s_all_marks) t ∧ t = t_all_marks := by
    refine ⟨_, (dss_cons (ds_par2 (i := 1) (j := 2) rfl sc_all_marks.nd rfl rfl (dm_cons (DF.x (df_lst da_nil)) (dm_cons (DF.x (df_lst (da_cons (de_tup (da_cons (de_tup da_nil) (da_cons (de_var 0) da_nil))) da_nil))) dm_nil)))
  (dss_cons (ds_while PassesOwn.never (dt_tru (dl_var 2)) (dss_cons (ds_unp (de_pop (pv 2)) (dg_tup (n := 2) rfl (dgs_cons (dg_name (i := 3) sc_all_marks.nd rfl (by first | exact .inl rfl | exact .inr rfl) (by first | exact .inl rfl | exact .inr rfl)) (dgs_cons (dg_name (i := 4) sc_all_marks.nd rfl (by first | exact .inl rfl | exact .inr rfl) (by first | exact .inl rfl | exact .inr rfl)) dgs_nil))))
  (dss_cons (ds_expr (de_append (pv 1) (de_tup (da_cons (de_var 3) (da_cons (de_var 4) da_nil)))))
  (dss_cons (ds_if (dt_cmp (op_eqP hu) (DE.dl (de_ix hu hW (dl_var 4) (DE.dl de_int))) (DE.dl (de_gstr (by rfl) T.c_FOLDER))) (dss_cons (ds_expr (de_extend (pv 2) (DF.de (df_lc rfl sc_all_marks.nd (DI.lo (di_seq (de_rev (DE.dl (de_ix hu hW (dl_var 4) (DE.dl de_int)))))) (blkOk_by (own := [("name", 5), ("inner", 6)]) (N := N_all_marks) (sc := defScope s_all_marks) (by decide +kernel)) (fun _ _ _ _ _ => (dg_tup (n := 2) rfl (dgs_cons (dg_name (i := 5) sc_all_marks.nd rfl (by first | exact .inl rfl | exact .inr rfl) (by first | exact .inl rfl | exact .inr rfl)) (dgs_cons (dg_name (i := 6) sc_all_marks.nd rfl (by first | exact .inl rfl | exact .inr rfl) (by first | exact .inl rfl | exact .inr rfl)) dgs_nil)))) (fun _ _ _ _ _ => dts_nil) (fun _ _ _ _ _ => (de_tup (da_cons (de_op op_addD (dl_var 3) (DE.dl (de_tup (da_cons (de_var 5) da_nil)))) (da_cons (de_var 6) da_nil)))) (by decide)))))
  dss_nil) dss_nil)
  dss_nil))))
  (dss_cons (ds_retV (pv 1))
  dss_nil))), ?_⟩
    rfl
  obtain ⟨t, h1, h2⟩ := h
  rw [← h2]
  exact h1
theorem wk_check_marks {P : Program} {w : World} {K : PySem.W.Frag} {mg : Str → Option Value} {base : Heap} (T : Txt K mg) (W : Tbs P w base T) {k : Nat}
  {S_all_marks : FSpec} (mono_all_marks : MonoF S_all_marks) (G_all_marks : FnG P w K mg base CX0 k T.f_all_marks T.d_all_marks P_all_marks (spD K false S_all_marks))
  (cdv : Value) (A : Around) (outer : List Env) (s : Shared) (H : Hp) (E : XK) (hr : RoomG k (A.deeper (envOfC "check_marks" (defScope s_check_marks) s.heap.objs.size T.f_check_marks cdv))) :
  DSs (cxOf CX0 P w K mg base N_check_marks "check_marks" (defScope s_check_marks) T.f_check_marks cdv A outer s H E).nox (defBody s_check_marks) (t_check_marks S_all_marks) := by
  have hu := hu64 hr
  have hu1 := hu1_ hr
  have hW : SameW (cxOf CX0 P w K mg base N_check_marks "check_marks" (defScope s_check_marks) T.f_check_marks cdv A outer s H E).nox := ⟨W.hp, W.hw⟩
  have h : ∃ t, DSs (cxOf CX0 P w K mg base N_check_marks "check_marks" (defScope s_check_marks) T.f_check_marks cdv A outer s H E).nox (defBody s_check_marks) t ∧ t = t_check_marks S_all_marks := by
    refine ⟨_, (dss_cons (ds_if (dt_cmp (op_gtP hu) (DE.dl (de_callB call_lenP (by rfl) T.m_len bt_len (dls_cons (DE.dl (de_call G_all_marks mono_all_marks hr (by rfl) T.g_all_marks T.F_all_marks.kp T.b_all_marks pass0 (dv_cons (de_var 0) dv_nil))) dls_nil))) (DE.dl (de_gint (by rfl) T.c_MOST_NODES))) (dss_cons ds_never
  dss_nil) dss_nil)
  (dss_cons (ds_ret (DE.x (de_var 0)))
  dss_nil)), ?_⟩
    rfl
  obtain ⟨t, h1, h2⟩ := h
  rw [← h2]
  exact h1
theorem wk_joined {P : Program} {w : World} {K : PySem.W.Frag} {mg : Str → Option Value} {base : Heap} (T : Txt K mg) (W : Tbs P w base T) {k : Nat}
  {S_joined_folder : FSpec} (mono_joined_folder : MonoF S_joined_folder) (G_joined_folder : FnG P w K mg base CX0 k T.f_joined_folder T.d_joined_folder P_joined_folder (spD K false S_joined_folder))
  (cdv : Value) (A : Around) (outer : List Env) (s : Shared) (H : Hp) (E : XK) (hr : RoomG k (A.deeper (envOfC "joined" (defScope s_joined) s.heap.objs.size T.f_joined cdv))) :
  DSs (cxOf CX0 P w K mg base N_joined "joined" (defScope s_joined) T.f_joined cdv A outer s H E).nox (defBody s_joined) (t_joined S_joined_folder) := by
  have hu := hu64 hr
  have hu1 := hu1_ hr
  have hW : SameW (cxOf CX0 P w K mg base N_joined "joined" (defScope s_joined) T.f_joined cdv A outer s H E).nox := ⟨W.hp, W.hw⟩
  have h : ∃ t, DSs (cxOf CX0 P w K mg base N_joined "joined" (defScope s_joined) T.f_joined cdv A outer s H E).nox (defBody s_joined) t ∧ t = t_joined S_joined_folder := by
    refine ⟨_, (dss_cons (ds_if (DW.dt (dw_or (dt_cmp op_isP (dl_var 0) (DE.dl de_non)) (dw_or (dt_cmp (op_neP hu) (DE.dl (de_ix hu hW (dl_var 1) (DE.dl de_int))) (DE.dl (de_gstr (by rfl) T.c_FOLDER))) (dw_or1 (dt_tru (DE.dl (de_ix hu hW (dl_var 1) (DE.dl de_int)))))))) (dss_cons (ds_ret (DE.x (de_var 1)))
  dss_nil) dss_nil)
  (dss_cons (ds_if (dt_cmp (op_neP hu) (DE.dl (de_ix hu hW (dl_var 0) (DE.dl de_int))) (DE.dl (de_gstr (by rfl) T.c_FOLDER))) (dss_cons (ds_ret (DE.x (de_op op_addD (DE.dl (de_slice (dl_var 1) do_none (do_some de_int))) (DE.dl (de_tup (da_cons (de_cmp (op_ltP hu) (dl_var 2) (DE.dl (de_gint (by rfl) T.c_MOST_NAMES))) da_nil))))))
  dss_nil) dss_nil)
  (dss_cons (ds_ret (DE.x (de_call G_joined_folder mono_joined_folder hr (by rfl) T.g_joined_folder T.F_joined_folder.kp T.b_joined_folder pass0 (dv_cons (de_var 0) (dv_cons (de_var 1) (dv_cons (de_var 2) dv_nil))))))
  dss_nil))), ?_⟩
    rfl
  obtain ⟨t, h1, h2⟩ := h
  rw [← h2]
  exact h1
theorem wk_joined_folder {P : Program} {w : World} {K : PySem.W.Frag} {mg : Str → Option Value} {base : Heap} (T : Txt K mg) (W : Tbs P w base T) {k : Nat}
  {S_joined : FSpec} (mono_joined : MonoF S_joined) (G_joined : FnG P w K mg base CX0 k T.f_joined T.d_joined P_joined (spD K false S_joined))
  (A : Around) (outer : List Env) (s : Shared) (H : Hp) (E : XK) (hr : RoomG k (A.deeper (envOfC "joined_folder" (defScope s_joined_folder) s.heap.objs.size T.f_joined_folder (.ref T.c_joined_folder)))) :
  DSs (cxOf CX0 P w K mg base N_joined_folder "joined_folder" (defScope s_joined_folder) T.f_joined_folder (.ref T.c_joined_folder) A outer s H E).nox (defBody s_joined_folder) (t_joined_folder S_joined) := by
  have hu := hu64 hr
  have hu1 := hu1_ hr
  have hW : SameW (cxOf CX0 P w K mg base N_joined_folder "joined_folder" (defScope s_joined_folder) T.f_joined_folder (.ref T.c_joined_folder) A outer s H E).nox := ⟨W.hp, W.hw⟩
  have h : ∃ t, DSs (cxOf CX0 P w K mg base N_joined_folder "joined_folder" (defScope s_joined_folder) T.f_joined_folder (.ref T.c_joined_folder) A outer s H E).nox (defBody s_joined_folder) t ∧ t = t_joined_folder S_joined := by
    refine ⟨_, (dss_cons (ds_set (i := 3) sc_joined_folder.nd rfl (DF.x (df_dictA (k := false) rfl hu hW (DE.dl (de_ix hu hW (dl_var 0) (DE.dl de_int))) (by rfl) T.m_dict)) (by first | exact .inl rfl | exact .inr rfl))
  (dss_cons (ds_for PassesOwn.never rfl (di_seq (de_ix hu hW (dl_var 1) (DE.dl de_int))) (dg_tup (n := 2) rfl (dgs_cons (dg_name (i := 4) sc_joined_folder.nd rfl (by first | exact .inl rfl | exact .inr rfl) (by first | exact .inl rfl | exact .inr rfl)) (dgs_cons (dg_name (i := 5) sc_joined_folder.nd rfl (by first | exact .inl rfl | exact .inr rfl) (by first | exact .inl rfl | exact .inr rfl)) dgs_nil))) (dss_cons (ds_put hu1 hW (de_call G_joined mono_joined hr (by rfl) T.g_joined T.F_joined.kp T.b_joined pass0 (dv_cons (de_get2 hu1 hW (dl_var 3) (de_var 4) de_non ⟨rfl, rfl, rfl, rfl⟩) (dv_cons (de_var 5) (dv_cons (de_op op_addD (dl_var 2) (DE.dl de_int)) dv_nil)))) (pv 3) (de_var 4))
  dss_nil))
  (dss_cons (ds_ret (DE.x (de_tup (da_cons (de_gstr (by rfl) T.c_FOLDER) (da_cons (de_ix hu hW (dl_var 1) (DE.dl de_int)) (da_cons (de_callTy call_tupleP (by rfl) T.m_tuple bt_tuple (dls_cons (DE.dl (DF.de (df_sortKey0 (c := T.c_joined_folder) (P := T.p_joined_folder) (y := "pair") (DE.dl (de_items rfl (dl_var 3) (by rfl) T.m_list)) hr hu (by rfl) T.m_sorted W.b_joined_folder rfl T.tm_joined_folder T.tu_joined_folder rfl (fun z hz e => by rw [List.mem_singleton.mp hz] at e; cases e) rfl rfl rfl (by decide +kernel) rfl (by decide) (fun _ _ _ _ _ _ => rfl)))) dls_nil)) (da_cons (de_ix hu hW (dl_var 0) (DE.dl de_int)) da_nil)))))))
  dss_nil))), ?_⟩
    rfl
  obtain ⟨t, h1, h2⟩ := h
  rw [← h2]
  exact h1
theorem wk_raw_behind {P : Program} {w : World} {K : PySem.W.Frag} {mg : Str → Option Value} {base : Heap} (T : Txt K mg) (W : Tbs P w base T) {k : Nat}
  {S_check_marks : FSpec} (mono_check_marks : MonoF S_check_marks) (G_check_marks : FnG P w K mg base CX0 k T.f_check_marks T.d_check_marks P_check_marks (spD K false S_check_marks))
  {S_joined : FSpec} (mono_joined : MonoF S_joined) (G_joined : FnG P w K mg base CX0 k T.f_joined T.d_joined P_joined (spD K false S_joined))
  (cdv : Value) (A : Around) (outer : List Env) (s : Shared) (H : Hp) (E : XK) (hr : RoomG k (A.deeper (envOfC "raw_behind" (defScope s_raw_behind) s.heap.objs.size T.f_raw_behind cdv))) :
  DSs (cxOf CX0 P w K mg base N_raw_behind "raw_behind" (defScope s_raw_behind) T.f_raw_behind cdv A outer s H E).nox (defBody s_raw_behind) (t_raw_behind S_check_marks S_joined) := by
  have hu := hu64 hr
  have hu1 := hu1_ hr
  have hW : SameW (cxOf CX0 P w K mg base N_raw_behind "raw_behind" (defScope s_raw_behind) T.f_raw_behind cdv A outer s H E).nox := ⟨W.hp, W.hw⟩
  have h : ∃ t, DSs (cxOf CX0 P w K mg base N_raw_behind "raw_behind" (defScope s_raw_behind) T.f_raw_behind cdv A outer s H E).nox (defBody s_raw_behind) t ∧ t = t_raw_behind S_check_marks S_joined := by
    refine ⟨_, (dss_cons (ds_ret (DE.x (de_call G_check_marks mono_check_marks hr (by rfl) T.g_check_marks T.F_check_marks.kp T.b_check_marks pass0 (dv_cons (de_call G_joined mono_joined hr (by rfl) T.g_joined T.F_joined.kp T.b_joined pass0 (dv_cons (de_var 0) (dv_cons (de_var 1) (dv_cons de_int dv_nil)))) dv_nil))))
  dss_nil), ?_⟩
    rfl
  obtain ⟨t, h1, h2⟩ := h
  rw [← h2]
  exact h1
theorem wk_one_behind {P : Program} {w : World} {K : PySem.W.Frag} {mg : Str → Option Value} {base : Heap} (T : Txt K mg) (W : Tbs P w base T) {k : Nat}
  {S_check_layer : FSpec} (mono_check_layer : MonoF S_check_layer) (G_check_layer : FnG P w K mg base CX0 k T.f_check_layer T.d_check_layer P_check_layer (spD K false S_check_layer))
  {S_raw_behind : FSpec} (mono_raw_behind : MonoF S_raw_behind) (G_raw_behind : FnG P w K mg base CX0 k T.f_raw_behind T.d_raw_behind P_raw_behind (spD K false S_raw_behind))
  (cdv : Value) (A : Around) (outer : List Env) (s : Shared) (H : Hp) (E : XK) (hr : RoomG k (A.deeper (envOfC "one_behind" (defScope s_one_behind) s.heap.objs.size T.f_one_behind cdv))) :
  DSs (cxOf CX0 P w K mg base N_one_behind "one_behind" (defScope s_one_behind) T.f_one_behind cdv A outer s H E).nox (defBody s_one_behind) (t_one_behind S_check_layer S_raw_behind) := by
  have hu := hu64 hr
  have hu1 := hu1_ hr
  have hW : SameW (cxOf CX0 P w K mg base N_one_behind "one_behind" (defScope s_one_behind) T.f_one_behind cdv A outer s H E).nox := ⟨W.hp, W.hw⟩
  have h : ∃ t, DSs (cxOf CX0 P w K mg base N_one_behind "one_behind" (defScope s_one_behind) T.f_one_behind cdv A outer s H E).nox (defBody s_one_behind) t ∧ t = t_one_behind S_check_layer S_raw_behind := by
    refine ⟨_, (dss_cons (ds_expr (de_call G_check_layer mono_check_layer hr (by rfl) T.g_check_layer T.F_check_layer.kp T.b_check_layer pass0 (dv_cons (de_var 0) dv_nil)))
  (dss_cons (ds_expr (de_call G_check_layer mono_check_layer hr (by rfl) T.g_check_layer T.F_check_layer.kp T.b_check_layer pass0 (dv_cons (de_var 1) dv_nil)))
  (dss_cons (ds_ret (DE.x (de_call G_raw_behind mono_raw_behind hr (by rfl) T.g_raw_behind T.F_raw_behind.kp T.b_raw_behind pass0 (dv_cons (de_var 0) (dv_cons (de_var 1) dv_nil)))))
  dss_nil))), ?_⟩
    rfl
  obtain ⟨t, h1, h2⟩ := h
  rw [← h2]
  exact h1
theorem wk__law_draw {P : Program} {w : World} {K : PySem.W.Frag} {mg : Str → Option Value} {base : Heap} (T : Txt K mg) (W : Tbs P w base T) {k : Nat}
  (cdv : Value) (A : Around) (outer : List Env) (s : Shared) (H : Hp) (E : XK) (hr : RoomG k (A.deeper (envOfC "_law_draw" (defScope s__law_draw) s.heap.objs.size T.f__law_draw cdv))) :
  DSs (cxOf CX0 P w K mg base N__law_draw "_law_draw" (defScope s__law_draw) T.f__law_draw cdv A outer s H E).nox (defBody s__law_draw) t__law_draw := by
  have hu := hu64 hr
  have hu1 := hu1_ hr
  have hW : SameW (cxOf CX0 P w K mg base N__law_draw "_law_draw" (defScope s__law_draw) T.f__law_draw cdv A outer s H E).nox := ⟨W.hp, W.hw⟩
  have h : ∃ t, DSs (cxOf CX0 P w K mg base N__law_draw "_law_draw" (defScope s__law_draw) T.f__law_draw cdv A outer s H E).nox (defBody s__law_draw) t ∧ t = t__law_draw := by
    refine ⟨_, (dss_cons (ds_if (DW.dt (dw_and (dt_cmp (op_eqP hu) (DE.dl (de_hix hu (pv 0) de_int)) (DE.dl de_int)) (dw_and1 (dt_cmp (op_ltP hu) (DE.dl (de_hix hu (pv 0) de_int)) (DE.dl (de_callB call_lenP (by rfl) T.m_len bt_len (dls_cons (DE.dl (de_hix hu (pv 0) de_int)) dls_nil))))))) (dss_cons (ds_set (i := 2) sc__law_draw.nd rfl (DE.x (de_ix hu hW (DE.dl (de_hix hu (pv 0) de_int)) (DE.dl (de_hix hu (pv 0) de_int)))) (by first | exact .inl rfl | exact .inr rfl))
  (dss_cons (ds_put hu1 hW (de_op op_addD (DE.dl (de_hix hu (pv 0) de_int)) (DE.dl de_int)) (pv 0) de_int)
  (dss_cons (ds_put hu1 hW (de_op op_modD (DE.dl (de_callTy call_intP (by rfl) T.m_int bt_int (dls_cons (DE.dl (de_op op_addD (DE.dl (de_op op_addD (DE.dl (de_op op_mulD (DE.dl (de_hix hu (pv 0) de_int)) (DE.dl de_int))) (dl_var 2))) (DE.dl de_int))) dls_nil))) (DE.dl de_int)) (pv 0) de_int)
  (dss_cons (ds_if (dt_cmp (op_geP hu) (dl_var 2) (DE.dl (de_op op_powD (DE.dl de_int) (DE.dl de_int)))) (dss_cons (ds_put hu1 hW (de_var 2) (pv 0) de_int)
  dss_nil) dss_nil)
  dss_nil)))) dss_nil)
  (dss_cons (ds_if (dt_cmp (op_gtP hu) (DE.dl (de_hix hu (pv 0) de_int)) (DE.dl de_int)) (dss_cons (ds_set (i := 3) sc__law_draw.nd rfl (DE.x (de_op op_modD (DE.dl (de_callTy call_intP (by rfl) T.m_int bt_int (dls_cons (DE.dl (de_hix hu (pv 0) de_int)) dls_nil))) (dl_var 1))) (by first | exact .inl rfl | exact .inr rfl))
  (dss_cons (ds_put hu1 hW (de_op op_divD (DE.dl (de_hix hu (pv 0) de_int)) (dl_var 1)) (pv 0) de_int)
  (dss_cons (ds_ret (DE.x (de_var 3)))
  dss_nil))) dss_nil)
  (dss_cons (ds_put hu1 hW (de_op op_addD (DE.dl (de_hix hu (pv 0) de_int)) (DE.dl de_int)) (pv 0) de_int)
  (dss_cons (ds_set (i := 4) sc__law_draw.nd rfl (DE.x (de_op op_modD (DE.dl (de_callTy call_intP (by rfl) T.m_int bt_int (dls_cons (DE.dl (de_op op_mulD (DE.dl (de_callTy call_intP (by rfl) T.m_int bt_int (dls_cons (DE.dl (de_op op_addD (DE.dl (de_hix hu (pv 0) de_int)) (DE.dl (de_op op_mulD (DE.dl de_int) (DE.dl (de_hix hu (pv 0) de_int)))))) dls_nil))) (DE.dl de_int))) dls_nil))) (DE.dl de_int))) (by first | exact .inl rfl | exact .inr rfl))
  (dss_cons (ds_set (i := 4) sc__law_draw.nd rfl (DE.x (de_op op_modD (DE.dl (de_callTy call_intP (by rfl) T.m_int bt_int (dls_cons (DE.dl (de_op op_mulD (dl_var 4) (DE.dl (de_op op_addD (DE.dl (de_op op_divD (dl_var 4) (DE.dl de_int))) (DE.dl de_int))))) dls_nil))) (DE.dl de_int))) (by first | exact .inl rfl | exact .inr rfl))
  (dss_cons (ds_set (i := 4) sc__law_draw.nd rfl (DE.x (de_op op_modD (DE.dl (de_callTy call_intP (by rfl) T.m_int bt_int (dls_cons (DE.dl (de_op op_mulD (dl_var 4) (DE.dl (de_op op_addD (DE.dl (de_op op_divD (dl_var 4) (DE.dl de_int))) (DE.dl de_int))))) dls_nil))) (DE.dl de_int))) (by first | exact .inl rfl | exact .inr rfl))
  (dss_cons (ds_ret (DE.x (de_op op_modD (DE.dl (de_callTy call_intP (by rfl) T.m_int bt_int (dls_cons (DE.dl (de_op op_divD (dl_var 4) (DE.dl de_int))) dls_nil))) (dl_var 1))))
  dss_nil))))))), ?_⟩
    rfl
  obtain ⟨t, h1, h2⟩ := h
  rw [← h2]
  exact h1
theorem wk__law_any {P : Program} {w : World} {K : PySem.W.Frag} {mg : Str → Option Value} {base : Heap} (T : Txt K mg) (W : Tbs P w base T) {k : Nat}
  {S__law_draw : FSpec} (mono__law_draw : MonoF S__law_draw) (G__law_draw : FnG P w K mg base CX0 k T.f__law_draw T.d__law_draw P__law_draw (spD K false S__law_draw))
  (cdv : Value) (A : Around) (outer : List Env) (s : Shared) (H : Hp) (E : XK) (hr : RoomG k (A.deeper (envOfC "_law_any" (defScope s__law_any) s.heap.objs.size T.f__law_any cdv))) :
  DSs (cxOf CX0 P w K mg base N__law_any "_law_any" (defScope s__law_any) T.f__law_any cdv A outer s H E).nox (defBody s__law_any) (t__law_any S__law_draw) := by
  have hu := hu64 hr
  have hu1 := hu1_ hr
  have hW : SameW (cxOf CX0 P w K mg base N__law_any "_law_any" (defScope s__law_any) T.f__law_any cdv A outer s H E).nox := ⟨W.hp, W.hw⟩
  have h : ∃ t, DSs (cxOf CX0 P w K mg base N__law_any "_law_any" (defScope s__law_any) T.f__law_any cdv A outer s H E).nox (defBody s__law_any) t ∧ t = t__law_any S__law_draw := by
    refine ⟨_, (dss_cons (ds_ret (DE.x (de_ix hu hW (dl_var 1) (DE.dl (de_call G__law_draw mono__law_draw hr (by rfl) T.g__law_draw T.F__law_draw.kp T.b__law_draw pass0 (dv_hand (pv 0) (dv_cons (de_callB call_lenP (by rfl) T.m_len bt_len (dls_cons (dl_var 1) dls_nil)) dv_nil)))))))
  dss_nil), ?_⟩
    rfl
  obtain ⟨t, h1, h2⟩ := h
  rw [← h2]
  exact h1
theorem wk__law_is {P : Program} {w : World} {K : PySem.W.Frag} {mg : Str → Option Value} {base : Heap} (T : Txt K mg) (W : Tbs P w base T) {k : Nat}
  {S__law_is : FSpec} (mono__law_is : MonoF S__law_is) (G__law_is : FnG P w K mg base CX0 k T.f__law_is T.d__law_is P__law_is (spD K false S__law_is))
  (cdv : Value) (A : Around) (outer : List Env) (s : Shared) (H : Hp) (E : XK) (hr : RoomG k (A.deeper (envOfC "_law_is" (defScope s__law_is) s.heap.objs.size T.f__law_is cdv))) :
  DSs (cxOf CX0 P w K mg base N__law_is "_law_is" (defScope s__law_is) T.f__law_is cdv A outer s H E).nox (defBody s__law_is) (t__law_is S__law_is) := by
  have hu := hu64 hr
  have hu1 := hu1_ hr
  have hW : SameW (cxOf CX0 P w K mg base N__law_is "_law_is" (defScope s__law_is) T.f__law_is cdv A outer s H E).nox := ⟨W.hp, W.hw⟩
  have h : ∃ t, DSs (cxOf CX0 P w K mg base N__law_is "_law_is" (defScope s__law_is) T.f__law_is cdv A outer s H E).nox (defBody s__law_is) t ∧ t = t__law_is S__law_is := by
    refine ⟨_, (dss_cons (ds_if (dt_val (de_isTL (dl_var 1) (by rfl) T.m_isinstance (by rfl) T.m_tuple (by rfl) T.m_list)) (dss_cons (ds_if (DW.dt (dw_or (dt_cmp (op_neP hu) (DE.dl (de_isa isa_tuple (dl_var 0) (by rfl) T.m_isinstance bt_isinstance (by rfl) T.m_tuple bt_tuple)) (DE.dl (de_isa isa_tuple (dl_var 1) (by rfl) T.m_isinstance bt_isinstance (by rfl) T.m_tuple bt_tuple))) (dw_or1 (dt_not (dt_val (de_isTL (dl_var 0) (by rfl) T.m_isinstance (by rfl) T.m_tuple (by rfl) T.m_list)))))) (dss_cons (ds_ret (DE.x de_bl))
  dss_nil) dss_nil)
  (dss_cons (ds_ret (DE.x (de_and (de_cmp (op_eqP hu) (DE.dl (de_callB call_lenP (by rfl) T.m_len bt_len (dls_cons (dl_var 0) dls_nil))) (DE.dl (de_callB call_lenP (by rfl) T.m_len bt_len (dls_cons (dl_var 1) dls_nil)))) (de_one (de_callB (call_allP rfl) (by rfl) T.m_all bt_all (dls_cons (DE.dl (DF.de (df_lc rfl sc__law_is.nd (DI.lo (di_zip (by rfl) T.m_zip (da_cons (de_var 0) (da_cons (de_var 1) da_nil)))) (blkOk_by (own := [("one", 2), ("other", 3)]) (N := N__law_is) (sc := defScope s__law_is) (by decide +kernel)) (fun _ _ _ _ _ => (dg_tup (n := 2) rfl (dgs_cons (dg_name (i := 2) sc__law_is.nd rfl (by first | exact .inl rfl | exact .inr rfl) (by first | exact .inl rfl | exact .inr rfl)) (dgs_cons (dg_name (i := 3) sc__law_is.nd rfl (by first | exact .inl rfl | exact .inr rfl) (by first | exact .inl rfl | exact .inr rfl)) dgs_nil)))) (fun _ _ _ _ _ => dts_nil) (fun _ _ _ _ _ => (de_call G__law_is mono__law_is hr (by rfl) T.g__law_is T.F__law_is.kp T.b__law_is pass0 (dv_cons (de_var 2) (dv_cons (de_var 3) dv_nil)))) (by decide)))) dls_nil))))))
  dss_nil)) dss_nil)
  (dss_cons (ds_if (DW.dt (dw_or (dt_cmp op_isP (dl_var 1) (DE.dl de_non)) (dw_or1 (dt_val (de_isa isa_bool (dl_var 1) (by rfl) T.m_isinstance bt_isinstance (by rfl) T.m_bool bt_bool))))) (dss_cons (ds_ret (DE.x (de_if (dt_cmp op_isP (dl_var 1) (DE.dl de_non)) (de_cmp op_isP (dl_var 0) (DE.dl de_non)) (de_and (de_isa isa_bool (dl_var 0) (by rfl) T.m_isinstance bt_isinstance (by rfl) T.m_bool bt_bool) (de_one (de_cmp (op_eqP hu) (DE.dl (de_callB (call_reprP hr.g hu) (by rfl) T.m_repr bt_repr (dls_cons (dl_var 0) dls_nil))) (DE.dl (de_callB (call_reprP hr.g hu) (by rfl) T.m_repr bt_repr (dls_cons (dl_var 1) dls_nil)))))))))
  dss_nil) dss_nil)
  (dss_cons (ds_if (dt_val (de_isa isa_str (dl_var 1) (by rfl) T.m_isinstance bt_isinstance (by rfl) T.m_str bt_str)) (dss_cons (ds_ret (DE.x (de_and (de_isa isa_str (dl_var 0) (by rfl) T.m_isinstance bt_isinstance (by rfl) T.m_str bt_str) (de_one (de_cmp (op_eqP hu) (DE.dl (de_callB (call_reprP hr.g hu) (by rfl) T.m_repr bt_repr (dls_cons (dl_var 0) dls_nil))) (DE.dl (de_callB (call_reprP hr.g hu) (by rfl) T.m_repr bt_repr (dls_cons (dl_var 1) dls_nil))))))))
  dss_nil) dss_nil)
  (dss_cons (ds_ret (DE.x (de_and (de_isa isa_int (dl_var 0) (by rfl) T.m_isinstance bt_isinstance (by rfl) T.m_int bt_int) (de_and (de_not (DE.dl (de_isa isa_bool (dl_var 0) (by rfl) T.m_isinstance bt_isinstance (by rfl) T.m_bool bt_bool))) (de_one (de_cmp (op_eqP hu) (DE.dl (de_callB (call_reprP hr.g hu) (by rfl) T.m_repr bt_repr (dls_cons (dl_var 0) dls_nil))) (DE.dl (de_callB (call_reprP hr.g hu) (by rfl) T.m_repr bt_repr (dls_cons (dl_var 1) dls_nil)))))))))
  dss_nil)))), ?_⟩
    rfl
  obtain ⟨t, h1, h2⟩ := h
  rw [← h2]
  exact h1
theorem wk__law_plain_one {P : Program} {w : World} {K : PySem.W.Frag} {mg : Str → Option Value} {base : Heap} (T : Txt K mg) (W : Tbs P w base T) {k : Nat}
  {S__law_draw : FSpec} (mono__law_draw : MonoF S__law_draw) (G__law_draw : FnG P w K mg base CX0 k T.f__law_draw T.d__law_draw P__law_draw (spD K false S__law_draw))
  {S__law_any : FSpec} (mono__law_any : MonoF S__law_any) (G__law_any : FnG P w K mg base CX0 k T.f__law_any T.d__law_any P__law_any (spD K false S__law_any))
  (cdv : Value) (A : Around) (outer : List Env) (s : Shared) (H : Hp) (E : XK) (hr : RoomG k (A.deeper (envOfC "_law_plain_one" (defScope s__law_plain_one) s.heap.objs.size T.f__law_plain_one cdv))) :
  DSs (cxOf CX0 P w K mg base N__law_plain_one "_law_plain_one" (defScope s__law_plain_one) T.f__law_plain_one cdv A outer s H E).nox (defBody s__law_plain_one) (t__law_plain_one S__law_draw S__law_any) := by
  have hu := hu64 hr
  have hu1 := hu1_ hr
  have hW : SameW (cxOf CX0 P w K mg base N__law_plain_one "_law_plain_one" (defScope s__law_plain_one) T.f__law_plain_one cdv A outer s H E).nox := ⟨W.hp, W.hw⟩
  have h : ∃ t, DSs (cxOf CX0 P w K mg base N__law_plain_one "_law_plain_one" (defScope s__law_plain_one) T.f__law_plain_one cdv A outer s H E).nox (defBody s__law_plain_one) t ∧ t = t__law_plain_one S__law_draw S__law_any := by
    refine ⟨_, (dss_cons (ds_if (dt_cmp (op_eqP hu) (DE.dl (de_call G__law_draw mono__law_draw hr (by rfl) T.g__law_draw T.F__law_draw.kp T.b__law_draw pass0 (dv_hand (pv 0) (dv_cons de_int dv_nil)))) (DE.dl de_int)) (dss_cons (ds_ret (DE.x (de_tup (da_cons de_str (da_cons (de_call G__law_any mono__law_any hr (by rfl) T.g__law_any T.F__law_any.kp T.b__law_any pass0 (dv_hand (pv 0) (dv_cons (DF.de (df_lst (da_cons de_str (da_cons de_str da_nil)))) dv_nil))) da_nil)))))
  dss_nil) dss_nil)
  (dss_cons (ds_ret (DE.x (de_tup (da_cons de_str (da_cons (de_call G__law_any mono__law_any hr (by rfl) T.g__law_any T.F__law_any.kp T.b__law_any pass0 (dv_hand (pv 0) (dv_cons (DF.de (df_lst (da_cons de_str (da_cons de_str (da_cons de_str da_nil))))) dv_nil))) (da_cons (de_call G__law_draw mono__law_draw hr (by rfl) T.g__law_draw T.F__law_draw.kp T.b__law_draw pass0 (dv_hand (pv 0) (dv_cons de_int dv_nil))) da_nil))))))
  dss_nil)), ?_⟩
    rfl
  obtain ⟨t, h1, h2⟩ := h
  rw [← h2]
  exact h1
theorem wk__law_layer {P : Program} {w : World} {K : PySem.W.Frag} {mg : Str → Option Value} {base : Heap} (T : Txt K mg) (W : Tbs P w base T) {k : Nat}
  {S__law_draw : FSpec} (mono__law_draw : MonoF S__law_draw) (G__law_draw : FnG P w K mg base CX0 k T.f__law_draw T.d__law_draw P__law_draw (spD K false S__law_draw))
  {S__law_mark : FSpec} (mono__law_mark : MonoF S__law_mark) (G__law_mark : FnG P w K mg base CX0 k T.f__law_mark T.d__law_mark P__law_mark (spD K false S__law_mark))
  (cdv : Value) (A : Around) (outer : List Env) (s : Shared) (H : Hp) (E : XK) (hr : RoomG k (A.deeper (envOfC "_law_layer" (defScope s__law_layer) s.heap.objs.size T.f__law_layer cdv))) :
  DSs (cxOf CX0 P w K mg base N__law_layer "_law_layer" (defScope s__law_layer) T.f__law_layer cdv A outer s H E).nox (defBody s__law_layer) (t__law_layer S__law_draw S__law_mark) := by
  have hu := hu64 hr
  have hu1 := hu1_ hr
  have hW : SameW (cxOf CX0 P w K mg base N__law_layer "_law_layer" (defScope s__law_layer) T.f__law_layer cdv A outer s H E).nox := ⟨W.hp, W.hw⟩
  have h : ∃ t, DSs (cxOf CX0 P w K mg base N__law_layer "_law_layer" (defScope s__law_layer) T.f__law_layer cdv A outer s H E).nox (defBody s__law_layer) t ∧ t = t__law_layer S__law_draw S__law_mark := by
    refine ⟨_, (dss_cons (ds_set (i := 3) sc__law_layer.nd rfl (DF.x (df_lst da_nil)) (by first | exact .inl rfl | exact .inr rfl))
  (dss_cons (ds_for PassesOwn.never rfl (di_seq (de_tup (da_cons de_str (da_cons de_str (da_cons de_str da_nil))))) (dg_name (i := 4) sc__law_layer.nd rfl (by first | exact .inl rfl | exact .inr rfl) (by first | exact .inl rfl | exact .inr rfl)) (dss_cons (ds_if (dt_cmp (op_eqP hu) (DE.dl (de_call G__law_draw mono__law_draw hr (by rfl) T.g__law_draw T.F__law_draw.kp T.b__law_draw pass0 (dv_hand (pv 0) (dv_cons de_int dv_nil)))) (DE.dl de_int)) (dss_cons (ds_expr (de_append (pv 3) (de_tup (da_cons (de_var 4) (da_cons (de_call G__law_mark mono__law_mark hr (by rfl) T.g__law_mark T.F__law_mark.kp T.b__law_mark pass0 (dv_hand (pv 0) (dv_cons (de_var 1) dv_nil))) da_nil)))))
  dss_nil) dss_nil)
  dss_nil))
  (dss_cons (ds_ret (DE.x (de_tup (da_cons de_str (da_cons (de_call G__law_draw mono__law_draw hr (by rfl) T.g__law_draw T.F__law_draw.kp T.b__law_draw pass0 (dv_hand (pv 0) (dv_cons de_int dv_nil))) (da_cons (de_callTy call_tupleP (by rfl) T.m_tuple bt_tuple (dls_cons (dl_var 3) dls_nil)) (da_cons (de_cmp (op_eqP hu) (DE.dl (de_call G__law_draw mono__law_draw hr (by rfl) T.g__law_draw T.F__law_draw.kp T.b__law_draw pass0 (dv_hand (pv 0) (dv_cons (de_var 2) dv_nil)))) (DE.dl de_int)) da_nil)))))))
  dss_nil))), ?_⟩
    rfl
  obtain ⟨t, h1, h2⟩ := h
  rw [← h2]
  exact h1
theorem wk__law_mark {P : Program} {w : World} {K : PySem.W.Frag} {mg : Str → Option Value} {base : Heap} (T : Txt K mg) (W : Tbs P w base T) {k : Nat}
  {S__law_draw : FSpec} (mono__law_draw : MonoF S__law_draw) (G__law_draw : FnG P w K mg base CX0 k T.f__law_draw T.d__law_draw P__law_draw (spD K false S__law_draw))
  {S__law_plain_one : FSpec} (mono__law_plain_one : MonoF S__law_plain_one) (G__law_plain_one : FnG P w K mg base CX0 k T.f__law_plain_one T.d__law_plain_one P__law_plain_one (spD K false S__law_plain_one))
  {S__law_layer : FSpec} (mono__law_layer : MonoF S__law_layer) (G__law_layer : FnG P w K mg base CX0 k T.f__law_layer T.d__law_layer P__law_layer (spD K false S__law_layer))
  (cdv : Value) (A : Around) (outer : List Env) (s : Shared) (H : Hp) (E : XK) (hr : RoomG k (A.deeper (envOfC "_law_mark" (defScope s__law_mark) s.heap.objs.size T.f__law_mark cdv))) :
  DSs (cxOf CX0 P w K mg base N__law_mark "_law_mark" (defScope s__law_mark) T.f__law_mark cdv A outer s H E).nox (defBody s__law_mark) (t__law_mark S__law_draw S__law_plain_one S__law_layer) := by
  have hu := hu64 hr
  have hu1 := hu1_ hr
  have hW : SameW (cxOf CX0 P w K mg base N__law_mark "_law_mark" (defScope s__law_mark) T.f__law_mark cdv A outer s H E).nox := ⟨W.hp, W.hw⟩
  have h : ∃ t, DSs (cxOf CX0 P w K mg base N__law_mark "_law_mark" (defScope s__law_mark) T.f__law_mark cdv A outer s H E).nox (defBody s__law_mark) t ∧ t = t__law_mark S__law_draw S__law_plain_one S__law_layer := by
    refine ⟨_, (dss_cons (ds_set (i := 2) sc__law_mark.nd rfl (DE.x (de_call G__law_draw mono__law_draw hr (by rfl) T.g__law_draw T.F__law_draw.kp T.b__law_draw pass0 (dv_hand (pv 0) (dv_cons de_int dv_nil)))) (by first | exact .inl rfl | exact .inr rfl))
  (dss_cons (ds_if (dt_cmp (op_eqP hu) (dl_var 2) (DE.dl de_int)) (dss_cons (ds_ret (DE.x (de_tup (da_cons de_str da_nil))))
  dss_nil) dss_nil)
  (dss_cons (ds_if (DW.dt (dw_or (dt_cmp (op_ltP hu) (dl_var 2) (DE.dl de_int)) (dw_or1 (dt_cmp (op_eqP hu) (dl_var 1) (DE.dl de_int))))) (dss_cons (ds_ret (DE.x (de_call G__law_plain_one mono__law_plain_one hr (by rfl) T.g__law_plain_one T.F__law_plain_one.kp T.b__law_plain_one pass0 (dv_hand (pv 0) dv_nil))))
  dss_nil) dss_nil)
  (dss_cons (ds_ret (DE.x (de_call G__law_layer mono__law_layer hr (by rfl) T.g__law_layer T.F__law_layer.kp T.b__law_layer pass0 (dv_hand (pv 0) (dv_cons (de_op op_subD (dl_var 1) (DE.dl de_int)) (dv_cons de_int dv_nil))))))
  dss_nil)))), ?_⟩
    rfl
  obtain ⟨t, h1, h2⟩ := h
  rw [← h2]
  exact h1
theorem wk__law_tree {P : Program} {w : World} {K : PySem.W.Frag} {mg : Str → Option Value} {base : Heap} (T : Txt K mg) (W : Tbs P w base T) {k : Nat}
  {S__law_draw : FSpec} (mono__law_draw : MonoF S__law_draw) (G__law_draw : FnG P w K mg base CX0 k T.f__law_draw T.d__law_draw P__law_draw (spD K false S__law_draw))
  {S__law_node : FSpec} (mono__law_node : MonoF S__law_node) (G__law_node : FnG P w K mg base CX0 k T.f__law_node T.d__law_node P__law_node (spD K false S__law_node))
  (cdv : Value) (A : Around) (outer : List Env) (s : Shared) (H : Hp) (E : XK) (hr : RoomG k (A.deeper (envOfC "_law_tree" (defScope s__law_tree) s.heap.objs.size T.f__law_tree cdv))) :
  DSs (cxOf CX0 P w K mg base N__law_tree "_law_tree" (defScope s__law_tree) T.f__law_tree cdv A outer s H E).nox (defBody s__law_tree) (t__law_tree S__law_draw S__law_node) := by
  have hu := hu64 hr
  have hu1 := hu1_ hr
  have hW : SameW (cxOf CX0 P w K mg base N__law_tree "_law_tree" (defScope s__law_tree) T.f__law_tree cdv A outer s H E).nox := ⟨W.hp, W.hw⟩
  have h : ∃ t, DSs (cxOf CX0 P w K mg base N__law_tree "_law_tree" (defScope s__law_tree) T.f__law_tree cdv A outer s H E).nox (defBody s__law_tree) t ∧ t = t__law_tree S__law_draw S__law_node := by
    refine ⟨_, (dss_cons (ds_set (i := 2) sc__law_tree.nd rfl (DF.x (df_lst da_nil)) (by first | exact .inl rfl | exact .inr rfl))
  (dss_cons (ds_for PassesOwn.never rfl (di_seq (de_tup (da_cons de_str (da_cons de_str (da_cons de_str (da_cons de_str da_nil)))))) (dg_name (i := 3) sc__law_tree.nd rfl (by first | exact .inl rfl | exact .inr rfl) (by first | exact .inl rfl | exact .inr rfl)) (dss_cons (ds_if (dt_cmp (op_gtP hu) (DE.dl (de_call G__law_draw mono__law_draw hr (by rfl) T.g__law_draw T.F__law_draw.kp T.b__law_draw pass0 (dv_hand (pv 0) (dv_cons de_int dv_nil)))) (DE.dl de_int)) (dss_cons (ds_expr (de_append (pv 2) (de_tup (da_cons (de_var 3) (da_cons (de_call G__law_node mono__law_node hr (by rfl) T.g__law_node T.F__law_node.kp T.b__law_node pass0 (dv_hand (pv 0) (dv_cons (de_var 1) dv_nil))) da_nil)))))
  dss_nil) dss_nil)
  dss_nil))
  (dss_cons (ds_ret (DE.x (de_tup (da_cons de_str (da_cons (de_call G__law_draw mono__law_draw hr (by rfl) T.g__law_draw T.F__law_draw.kp T.b__law_draw pass0 (dv_hand (pv 0) (dv_cons de_int dv_nil))) (da_cons (de_callTy call_tupleP (by rfl) T.m_tuple bt_tuple (dls_cons (dl_var 2) dls_nil)) da_nil))))))
  dss_nil))), ?_⟩
    rfl
  obtain ⟨t, h1, h2⟩ := h
  rw [← h2]
  exact h1
theorem wk__law_node {P : Program} {w : World} {K : PySem.W.Frag} {mg : Str → Option Value} {base : Heap} (T : Txt K mg) (W : Tbs P w base T) {k : Nat}
  {S__law_draw : FSpec} (mono__law_draw : MonoF S__law_draw) (G__law_draw : FnG P w K mg base CX0 k T.f__law_draw T.d__law_draw P__law_draw (spD K false S__law_draw))
  {S__law_plain_one : FSpec} (mono__law_plain_one : MonoF S__law_plain_one) (G__law_plain_one : FnG P w K mg base CX0 k T.f__law_plain_one T.d__law_plain_one P__law_plain_one (spD K false S__law_plain_one))
  {S__law_tree : FSpec} (mono__law_tree : MonoF S__law_tree) (G__law_tree : FnG P w K mg base CX0 k T.f__law_tree T.d__law_tree P__law_tree (spD K false S__law_tree))
  (cdv : Value) (A : Around) (outer : List Env) (s : Shared) (H : Hp) (E : XK) (hr : RoomG k (A.deeper (envOfC "_law_node" (defScope s__law_node) s.heap.objs.size T.f__law_node cdv))) :
  DSs (cxOf CX0 P w K mg base N__law_node "_law_node" (defScope s__law_node) T.f__law_node cdv A outer s H E).nox (defBody s__law_node) (t__law_node S__law_draw S__law_plain_one S__law_tree) := by
  have hu := hu64 hr
  have hu1 := hu1_ hr
  have hW : SameW (cxOf CX0 P w K mg base N__law_node "_law_node" (defScope s__law_node) T.f__law_node cdv A outer s H E).nox := ⟨W.hp, W.hw⟩
  have h : ∃ t, DSs (cxOf CX0 P w K mg base N__law_node "_law_node" (defScope s__law_node) T.f__law_node cdv A outer s H E).nox (defBody s__law_node) t ∧ t = t__law_node S__law_draw S__law_plain_one S__law_tree := by
    refine ⟨_, (dss_cons (ds_if (DW.dt (dw_or (dt_cmp (op_eqP hu) (dl_var 1) (DE.dl de_int)) (dw_or1 (dt_cmp (op_eqP hu) (DE.dl (de_call G__law_draw mono__law_draw hr (by rfl) T.g__law_draw T.F__law_draw.kp T.b__law_draw pass0 (dv_hand (pv 0) (dv_cons de_int dv_nil)))) (DE.dl de_int))))) (dss_cons (ds_ret (DE.x (de_call G__law_plain_one mono__law_plain_one hr (by rfl) T.g__law_plain_one T.F__law_plain_one.kp T.b__law_plain_one pass0 (dv_hand (pv 0) dv_nil))))
  dss_nil) dss_nil)
  (dss_cons (ds_ret (DE.x (de_call G__law_tree mono__law_tree hr (by rfl) T.g__law_tree T.F__law_tree.kp T.b__law_tree pass0 (dv_hand (pv 0) (dv_cons (de_op op_subD (dl_var 1) (DE.dl de_int)) dv_nil)))))
  dss_nil)), ?_⟩
    rfl
  obtain ⟨t, h1, h2⟩ := h
  rw [← h2]
  exact h1
theorem wk__law_by_names {P : Program} {w : World} {K : PySem.W.Frag} {mg : Str → Option Value} {base : Heap} (T : Txt K mg) (W : Tbs P w base T) {k : Nat}
  (cdv : Value) (A : Around) (outer : List Env) (s : Shared) (H : Hp) (E : XK) (hr : RoomG k (A.deeper (envOfC "_law_by_names" (defScope s__law_by_names) s.heap.objs.size T.f__law_by_names cdv))) :
  DSs (cxOf CX0 P w K mg base N__law_by_names "_law_by_names" (defScope s__law_by_names) T.f__law_by_names cdv A outer s H E).nox (defBody s__law_by_names) t__law_by_names := by
  have hu := hu64 hr
  have hu1 := hu1_ hr
  have hW : SameW (cxOf CX0 P w K mg base N__law_by_names "_law_by_names" (defScope s__law_by_names) T.f__law_by_names cdv A outer s H E).nox := ⟨W.hp, W.hw⟩
  have h : ∃ t, DSs (cxOf CX0 P w K mg base N__law_by_names "_law_by_names" (defScope s__law_by_names) T.f__law_by_names cdv A outer s H E).nox (defBody s__law_by_names) t ∧ t = t__law_by_names := by
    refine ⟨_, (dss_cons (ds_ret (DE.x (de_callTy call_tupleP (by rfl) T.m_tuple bt_tuple (dls_cons (DE.dl (DF.de (df_lc rfl sc__law_by_names.nd (DI.lo (di_seq (DF.de (df_callB (call_keysSP rfl hu) (by rfl) T.m_sorted bt_sorted (dls_cons (dl_var 0) dls_nil))))) (blkOk_by (own := [("name", 1)]) (N := N__law_by_names) (sc := defScope s__law_by_names) (by decide +kernel)) (fun _ _ _ _ _ => (dg_name (i := 1) sc__law_by_names.nd rfl (by first | exact .inl rfl | exact .inr rfl) (by first | exact .inl rfl | exact .inr rfl))) (fun _ _ _ _ _ => dts_nil) (fun _ _ _ _ _ => (de_tup (da_cons (de_var 1) (da_cons (de_ix hu hW (dl_var 0) (dl_var 1)) da_nil)))) (by decide)))) dls_nil))))
  dss_nil), ?_⟩
    rfl
  obtain ⟨t, h1, h2⟩ := h
  rw [← h2]
  exact h1
theorem wk__law_made {P : Program} {w : World} {K : PySem.W.Frag} {mg : Str → Option Value} {base : Heap} (T : Txt K mg) (W : Tbs P w base T) {k : Nat}
  {S__law_by_names : FSpec} (mono__law_by_names : MonoF S__law_by_names) (G__law_by_names : FnG P w K mg base CX0 k T.f__law_by_names T.d__law_by_names P__law_by_names (spD K false S__law_by_names))
  {S__law_made : FSpec} (mono__law_made : MonoF S__law_made) (G__law_made : FnG P w K mg base CX0 k T.f__law_made T.d__law_made P__law_made (spD K false S__law_made))
  (cdv : Value) (A : Around) (outer : List Env) (s : Shared) (H : Hp) (E : XK) (hr : RoomG k (A.deeper (envOfC "_law_made" (defScope s__law_made) s.heap.objs.size T.f__law_made cdv))) :
  DSs (cxOf CX0 P w K mg base N__law_made "_law_made" (defScope s__law_made) T.f__law_made cdv A outer s H E).nox (defBody s__law_made) (t__law_made S__law_by_names S__law_made) := by
  have hu := hu64 hr
  have hu1 := hu1_ hr
  have hW : SameW (cxOf CX0 P w K mg base N__law_made "_law_made" (defScope s__law_made) T.f__law_made cdv A outer s H E).nox := ⟨W.hp, W.hw⟩
  have h : ∃ t, DSs (cxOf CX0 P w K mg base N__law_made "_law_made" (defScope s__law_made) T.f__law_made cdv A outer s H E).nox (defBody s__law_made) t ∧ t = t__law_made S__law_by_names S__law_made := by
    refine ⟨_, (dss_cons (ds_set (i := 2) sc__law_made.nd rfl (DF.x (df_if (dt_tru (DE.dl (de_ix hu hW (dl_var 0) (DE.dl de_int)))) df_dicK (df_dictA (k := false) rfl hu hW (DE.dl (de_ix hu hW (dl_var 1) (DE.dl de_int))) (by rfl) T.m_dict))) (by first | exact .inl rfl | exact .inr rfl))
  (dss_cons (ds_for PassesOwn.never rfl (di_seq (de_ix hu hW (dl_var 0) (DE.dl de_int))) (dg_tup (n := 2) rfl (dgs_cons (dg_name (i := 3) sc__law_made.nd rfl (by first | exact .inl rfl | exact .inr rfl) (by first | exact .inl rfl | exact .inr rfl)) (dgs_cons (dg_name (i := 4) sc__law_made.nd rfl (by first | exact .inl rfl | exact .inr rfl) (by first | exact .inl rfl | exact .inr rfl)) dgs_nil))) (dss_cons (ds_if (dt_cmp (op_eqP hu) (DE.dl (de_ix hu hW (dl_var 4) (DE.dl de_int))) (DE.dl de_str)) (dss_cons (ds_expr (de_dpop (pv 2) (de_var 3) de_non ⟨rfl, rfl, rfl, rfl⟩))
  dss_nil) (dss_cons (ds_if (dt_cmp (op_eqP hu) (DE.dl (de_ix hu hW (dl_var 4) (DE.dl de_int))) (DE.dl de_str)) (dss_cons (ds_set (i := 5) sc__law_made.nd rfl (DE.x (de_get2 hu1 hW (dl_var 2) (de_var 3) (de_tup (da_cons de_str da_nil)) ⟨rfl, rfl, rfl, rfl⟩)) (by first | exact .inl rfl | exact .inr rfl))
  (dss_cons (ds_put hu1 hW (de_call G__law_made mono__law_made hr (by rfl) T.g__law_made T.F__law_made.kp T.b__law_made pass0 (dv_cons (de_var 4) (dv_cons (de_if (dt_cmp (op_eqP hu) (DE.dl (de_ix hu hW (dl_var 5) (DE.dl de_int))) (DE.dl de_str)) (de_var 5) (de_tup (da_cons de_str (da_cons de_int (da_cons (de_tup da_nil) da_nil))))) dv_nil))) (pv 2) (de_var 3))
  dss_nil)) (dss_cons (ds_put hu1 hW (de_var 4) (pv 2) (de_var 3))
  dss_nil))
  dss_nil))
  dss_nil))
  (dss_cons (ds_ret (DE.x (de_tup (da_cons de_str (da_cons (de_ix hu hW (dl_var 0) (DE.dl de_int)) (da_cons (de_call G__law_by_names mono__law_by_names hr (by rfl) T.g__law_by_names T.F__law_by_names.kp T.b__law_by_names pass0 (dv_cons (de_var 2) dv_nil)) da_nil))))))
  dss_nil))), ?_⟩
    rfl
  obtain ⟨t, h1, h2⟩ := h
  rw [← h2]
  exact h1
theorem wk__law_behind {P : Program} {w : World} {K : PySem.W.Frag} {mg : Str → Option Value} {base : Heap} (T : Txt K mg) (W : Tbs P w base T) {k : Nat}
  {S__law_by_names : FSpec} (mono__law_by_names : MonoF S__law_by_names) (G__law_by_names : FnG P w K mg base CX0 k T.f__law_by_names T.d__law_by_names P__law_by_names (spD K false S__law_by_names))
  {S__law_behind : FSpec} (mono__law_behind : MonoF S__law_behind) (G__law_behind : FnG P w K mg base CX0 k T.f__law_behind T.d__law_behind P__law_behind (spD K false S__law_behind))
  (cdv : Value) (A : Around) (outer : List Env) (s : Shared) (H : Hp) (E : XK) (hr : RoomG k (A.deeper (envOfC "_law_behind" (defScope s__law_behind) s.heap.objs.size T.f__law_behind cdv))) :
  DSs (cxOf CX0 P w K mg base N__law_behind "_law_behind" (defScope s__law_behind) T.f__law_behind cdv A outer s H E).nox (defBody s__law_behind) (t__law_behind S__law_by_names S__law_behind) := by
  have hu := hu64 hr
  have hu1 := hu1_ hr
  have hW : SameW (cxOf CX0 P w K mg base N__law_behind "_law_behind" (defScope s__law_behind) T.f__law_behind cdv A outer s H E).nox := ⟨W.hp, W.hw⟩
  have h : ∃ t, DSs (cxOf CX0 P w K mg base N__law_behind "_law_behind" (defScope s__law_behind) T.f__law_behind cdv A outer s H E).nox (defBody s__law_behind) t ∧ t = t__law_behind S__law_by_names S__law_behind := by
    refine ⟨_, (dss_cons (ds_if (dt_tru (DE.dl (de_ix hu hW (dl_var 1) (DE.dl de_int)))) (dss_cons (ds_ret (DE.x (de_var 1)))
  dss_nil) dss_nil)
  (dss_cons (ds_set (i := 2) sc__law_behind.nd rfl (DF.x (df_dictA (k := false) rfl hu hW (DE.dl (de_ix hu hW (dl_var 0) (DE.dl de_int))) (by rfl) T.m_dict)) (by first | exact .inl rfl | exact .inr rfl))
  (dss_cons (ds_for PassesOwn.never rfl (di_seq (de_ix hu hW (dl_var 1) (DE.dl de_int))) (dg_tup (n := 2) rfl (dgs_cons (dg_name (i := 3) sc__law_behind.nd rfl (by first | exact .inl rfl | exact .inr rfl) (by first | exact .inl rfl | exact .inr rfl)) (dgs_cons (dg_name (i := 4) sc__law_behind.nd rfl (by first | exact .inl rfl | exact .inr rfl) (by first | exact .inl rfl | exact .inr rfl)) dgs_nil))) (dss_cons (ds_set (i := 5) sc__law_behind.nd rfl (DE.x (de_get2 hu1 hW (dl_var 2) (de_var 3) de_non ⟨rfl, rfl, rfl, rfl⟩)) (by first | exact .inl rfl | exact .inr rfl))
  (dss_cons (ds_if (DW.dt (dw_or (dt_cmp (op_neP hu) (DE.dl (de_ix hu hW (dl_var 4) (DE.dl de_int))) (DE.dl de_str)) (dw_or (dt_cmp op_isP (dl_var 5) (DE.dl de_non)) (dw_or1 (dt_tru (DE.dl (de_ix hu hW (dl_var 4) (DE.dl de_int)))))))) (dss_cons (ds_put hu1 hW (de_var 4) (pv 2) (de_var 3))
  dss_nil) (dss_cons (ds_if (dt_cmp (op_eqP hu) (DE.dl (de_ix hu hW (dl_var 5) (DE.dl de_int))) (DE.dl de_str)) (dss_cons (ds_put hu1 hW (de_call G__law_behind mono__law_behind hr (by rfl) T.g__law_behind T.F__law_behind.kp T.b__law_behind pass0 (dv_cons (de_var 5) (dv_cons (de_var 4) dv_nil))) (pv 2) (de_var 3))
  dss_nil) (dss_cons (ds_put hu1 hW (de_op op_addD (DE.dl (de_slice (dl_var 4) do_none (do_some de_int))) (DE.dl (de_tup (da_cons de_bl da_nil)))) (pv 2) (de_var 3))
  dss_nil))
  dss_nil))
  dss_nil)))
  (dss_cons (ds_ret (DE.x (de_tup (da_cons de_str (da_cons (de_ix hu hW (dl_var 1) (DE.dl de_int)) (da_cons (de_call G__law_by_names mono__law_by_names hr (by rfl) T.g__law_by_names T.F__law_by_names.kp T.b__law_by_names pass0 (dv_cons (de_var 2) dv_nil)) (da_cons (de_ix hu hW (dl_var 0) (DE.dl de_int)) da_nil)))))))
  dss_nil)))), ?_⟩
    rfl
  obtain ⟨t, h1, h2⟩ := h
  rw [← h2]
  exact h1
theorem wk__law_trees {P : Program} {w : World} {K : PySem.W.Frag} {mg : Str → Option Value} {base : Heap} (T : Txt K mg) (W : Tbs P w base T) {k : Nat}
  {S__law_tree : FSpec} (mono__law_tree : MonoF S__law_tree) (G__law_tree : FnG P w K mg base CX0 k T.f__law_tree T.d__law_tree P__law_tree (spD K false S__law_tree))
  (cdv : Value) (A : Around) (outer : List Env) (s : Shared) (H : Hp) (E : XK) (hr : RoomG k (A.deeper (envOfC "_law_trees" (defScope s__law_trees) s.heap.objs.size T.f__law_trees cdv))) :
  DSs (cxOf CX0 P w K mg base N__law_trees "_law_trees" (defScope s__law_trees) T.f__law_trees cdv A outer s H E).nox (defBody s__law_trees) (t__law_trees S__law_tree) := by
  have hu := hu64 hr
  have hu1 := hu1_ hr
  have hW : SameW (cxOf CX0 P w K mg base N__law_trees "_law_trees" (defScope s__law_trees) T.f__law_trees cdv A outer s H E).nox := ⟨W.hp, W.hw⟩
  have h : ∃ t, DSs (cxOf CX0 P w K mg base N__law_trees "_law_trees" (defScope s__law_trees) T.f__law_trees cdv A outer s H E).nox (defBody s__law_trees) t ∧ t = t__law_trees S__law_tree := by
    refine ⟨_, (dss_cons (ds_ret (DE.x (de_op op_addD (DE.dl (DF.de (df_lc rfl sc__law_trees.nd (DI.lo (di_rng1 (by rfl) T.m_range (da_cons (de_var 1) da_nil))) (blkOk_by (own := [("lap", 2)]) (N := N__law_trees) (sc := defScope s__law_trees) (by decide +kernel)) (fun _ _ _ _ _ => (dg_name (i := 2) sc__law_trees.nd rfl (by first | exact .inl rfl | exact .inr rfl) (by first | exact .inl rfl | exact .inr rfl))) (fun _ _ _ _ _ => dts_nil) (fun _ _ _ _ _ => (de_call G__law_tree mono__law_tree hr (by rfl) T.g__law_tree T.F__law_tree.kp T.b__law_tree pass0 (dv_hand (pv 0) (dv_cons de_int dv_nil)))) (by decide)))) (DE.dl (DF.de (df_lst (da_cons (de_tup (da_cons de_str (da_cons de_int (da_cons (de_tup da_nil) da_nil)))) da_nil)))))))
  dss_nil), ?_⟩
    rfl
  obtain ⟨t, h1, h2⟩ := h
  rw [← h2]
  exact h1
theorem wk__law_is_right {P : Program} {w : World} {K : PySem.W.Frag} {mg : Str → Option Value} {base : Heap} (T : Txt K mg) (W : Tbs P w base T) {k : Nat}
  {S_made : FSpec} (mono_made : MonoF S_made) (G_made : FnG P w K mg base CX0 k T.f_made T.d_made P_made (spD K false S_made))
  {S_one_behind : FSpec} (mono_one_behind : MonoF S_one_behind) (G_one_behind : FnG P w K mg base CX0 k T.f_one_behind T.d_one_behind P_one_behind (spD K false S_one_behind))
  {S__law_any : FSpec} (mono__law_any : MonoF S__law_any) (G__law_any : FnG P w K mg base CX0 k T.f__law_any T.d__law_any P__law_any (spD K false S__law_any))
  {S__law_is : FSpec} (mono__law_is : MonoF S__law_is) (G__law_is : FnG P w K mg base CX0 k T.f__law_is T.d__law_is P__law_is (spD K false S__law_is))
  {S__law_layer : FSpec} (mono__law_layer : MonoF S__law_layer) (G__law_layer : FnG P w K mg base CX0 k T.f__law_layer T.d__law_layer P__law_layer (spD K false S__law_layer))
  {S__law_made : FSpec} (mono__law_made : MonoF S__law_made) (G__law_made : FnG P w K mg base CX0 k T.f__law_made T.d__law_made P__law_made (spD K false S__law_made))
  {S__law_behind : FSpec} (mono__law_behind : MonoF S__law_behind) (G__law_behind : FnG P w K mg base CX0 k T.f__law_behind T.d__law_behind P__law_behind (spD K false S__law_behind))
  {S__law_trees : FSpec} (mono__law_trees : MonoF S__law_trees) (G__law_trees : FnG P w K mg base CX0 k T.f__law_trees T.d__law_trees P__law_trees (spD K false S__law_trees))
  (cdv : Value) (A : Around) (outer : List Env) (s : Shared) (H : Hp) (E : XK) (hr : RoomG k (A.deeper (envOfC "_law_is_right" (defScope s__law_is_right) s.heap.objs.size T.f__law_is_right cdv))) :
  DSs (cxOf CX0 P w K mg base N__law_is_right "_law_is_right" (defScope s__law_is_right) T.f__law_is_right cdv A outer s H E).nox (defBody s__law_is_right) (t__law_is_right S_made S_one_behind S__law_any S__law_is S__law_layer S__law_made S__law_behind S__law_trees) := by
  have hu := hu64 hr
  have hu1 := hu1_ hr
  have hW : SameW (cxOf CX0 P w K mg base N__law_is_right "_law_is_right" (defScope s__law_is_right) T.f__law_is_right cdv A outer s H E).nox := ⟨W.hp, W.hw⟩
  have h : ∃ t, DSs (cxOf CX0 P w K mg base N__law_is_right "_law_is_right" (defScope s__law_is_right) T.f__law_is_right cdv A outer s H E).nox (defBody s__law_is_right) t ∧ t = t__law_is_right S_made S_one_behind S__law_any S__law_is S__law_layer S__law_made S__law_behind S__law_trees := by
    refine ⟨_, (dss_cons (ds_unp (DF.de (df_lc rfl sc__law_is_right.nd (DI.lo (di_rng1 (by rfl) T.m_range (da_cons de_int da_nil))) (blkOk_by (own := [("lap", 4)]) (N := N__law_is_right) (sc := defScope s__law_is_right) (by decide +kernel)) (fun _ _ _ _ _ => (dg_name (i := 4) sc__law_is_right.nd rfl (by first | exact .inl rfl | exact .inr rfl) (by first | exact .inl rfl | exact .inr rfl))) (fun _ _ _ _ _ => dts_nil) (fun _ _ _ _ _ => (de_call G__law_layer mono__law_layer hr (by rfl) T.g__law_layer T.F__law_layer.kp T.b__law_layer pass0 (dv_hand (pv 0) (dv_cons de_int (dv_cons (de_call G__law_any mono__law_any hr (by rfl) T.g__law_any T.F__law_any.kp T.b__law_any pass0 (dv_hand (pv 0) (dv_cons (DF.de (df_lst (da_cons de_int (da_cons de_int (da_cons de_int da_nil))))) dv_nil))) dv_nil))))) (by decide))) (dg_tup (n := 3) rfl (dgs_cons (dg_name (i := 1) sc__law_is_right.nd rfl (by first | exact .inl rfl | exact .inr rfl) (by first | exact .inl rfl | exact .inr rfl)) (dgs_cons (dg_name (i := 2) sc__law_is_right.nd rfl (by first | exact .inl rfl | exact .inr rfl) (by first | exact .inl rfl | exact .inr rfl)) (dgs_cons (dg_name (i := 3) sc__law_is_right.nd rfl (by first | exact .inl rfl | exact .inr rfl) (by first | exact .inl rfl | exact .inr rfl)) dgs_nil)))))
  (dss_cons (ds_par2 (i := 5) (j := 6) rfl sc__law_is_right.nd rfl rfl (dm_cons (DE.x (de_callB (call_reprP hr.g hu) (by rfl) T.m_repr bt_repr (dls_cons (DE.dl (DF.de (df_lst (da_cons (de_var 1) (da_cons (de_var 2) da_nil))))) dls_nil))) (dm_cons (DE.x (de_call G_one_behind mono_one_behind hr (by rfl) T.g_one_behind T.F_one_behind.kp T.b_one_behind pass0 (dv_cons (de_var 1) (dv_cons (de_var 2) dv_nil)))) dm_nil)))
  (dss_cons (ds_if (DW.dt (dw_or (dt_not (dt_val (de_call G__law_is mono__law_is hr (by rfl) T.g__law_is T.F__law_is.kp T.b__law_is pass0 (dv_cons (de_var 6) (dv_cons (de_call G__law_behind mono__law_behind hr (by rfl) T.g__law_behind T.F__law_behind.kp T.b__law_behind pass0 (dv_cons (de_var 1) (dv_cons (de_var 2) dv_nil))) dv_nil))))) (dw_or1 (dt_cmp (op_neP hu) (DE.dl (de_callB (call_reprP hr.g hu) (by rfl) T.m_repr bt_repr (dls_cons (DE.dl (DF.de (df_lst (da_cons (de_var 1) (da_cons (de_var 2) da_nil))))) dls_nil))) (dl_var 5))))) (dss_cons (ds_ret (DE.x de_bl))
  dss_nil) dss_nil)
  (dss_cons (ds_for PassesOwn.never rfl (di_seq (de_call G__law_trees mono__law_trees hr (by rfl) T.g__law_trees T.F__law_trees.kp T.b__law_trees pass0 (dv_hand (pv 0) (dv_cons de_int dv_nil)))) (dg_name (i := 7) sc__law_is_right.nd rfl (by first | exact .inl rfl | exact .inr rfl) (by first | exact .inl rfl | exact .inr rfl)) (dss_cons (ds_set (i := 8) sc__law_is_right.nd rfl (DE.x (de_call G__law_made mono__law_made hr (by rfl) T.g__law_made T.F__law_made.kp T.b__law_made pass0 (dv_cons (de_var 2) (dv_cons (de_call G__law_made mono__law_made hr (by rfl) T.g__law_made T.F__law_made.kp T.b__law_made pass0 (dv_cons (de_var 1) (dv_cons (de_var 7) dv_nil))) dv_nil)))) (by first | exact .inl rfl | exact .inr rfl))
  (dss_cons (ds_if (dt_not (dt_val (de_call G__law_is mono__law_is hr (by rfl) T.g__law_is T.F__law_is.kp T.b__law_is pass0 (dv_cons (DF.de (df_lst (da_cons (de_call G_made mono_made hr (by rfl) T.g_made T.F_made.kp T.b_made pass0 (dv_cons (de_var 6) (dv_cons (de_var 7) dv_nil))) (da_cons (de_call G_made mono_made hr (by rfl) T.g_made T.F_made.kp T.b_made pass0 (dv_cons (de_var 2) (dv_cons (de_call G_made mono_made hr (by rfl) T.g_made T.F_made.kp T.b_made pass0 (dv_cons (de_var 1) (dv_cons (de_var 7) dv_nil))) dv_nil))) da_nil)))) (dv_cons (DF.de (df_lst (da_cons (de_var 8) (da_cons (de_var 8) da_nil)))) dv_nil))))) (dss_cons (ds_ret (DE.x de_bl))
  dss_nil) dss_nil)
  dss_nil)))
  (dss_cons (ds_if (dt_cmp (op_neP hu) (DE.dl (de_call G_one_behind mono_one_behind hr (by rfl) T.g_one_behind T.F_one_behind.kp T.b_one_behind pass0 (dv_cons (de_var 6) (dv_cons (de_var 3) dv_nil)))) (DE.dl (de_call G_one_behind mono_one_behind hr (by rfl) T.g_one_behind T.F_one_behind.kp T.b_one_behind pass0 (dv_cons (de_var 1) (dv_cons (de_call G_one_behind mono_one_behind hr (by rfl) T.g_one_behind T.F_one_behind.kp T.b_one_behind pass0 (dv_cons (de_var 2) (dv_cons (de_var 3) dv_nil))) dv_nil))))) (dss_cons (ds_ret (DE.x de_bl))
  dss_nil) dss_nil)
  (dss_cons (ds_set (i := 9) sc__law_is_right.nd rfl (DE.x (de_tup (da_cons de_str (da_cons (de_ix hu hW (dl_var 1) (DE.dl de_int)) (da_cons (de_tup da_nil) (da_cons de_bl da_nil)))))) (by first | exact .inl rfl | exact .inr rfl))
  (dss_cons (ds_ret (DE.x (de_call G__law_is mono__law_is hr (by rfl) T.g__law_is T.F__law_is.kp T.b__law_is pass0 (dv_cons (DF.de (df_lst (da_cons (de_call G_one_behind mono_one_behind hr (by rfl) T.g_one_behind T.F_one_behind.kp T.b_one_behind pass0 (dv_cons (de_var 1) (dv_cons (de_var 9) dv_nil))) (da_cons (de_call G_one_behind mono_one_behind hr (by rfl) T.g_one_behind T.F_one_behind.kp T.b_one_behind pass0 (dv_cons (de_var 9) (dv_cons (de_var 1) dv_nil))) da_nil)))) (dv_cons (DF.de (df_lst (da_cons (de_var 1) (da_cons (de_var 1) da_nil)))) dv_nil)))))
  dss_nil))))))), ?_⟩
    rfl
  obtain ⟨t, h1, h2⟩ := h
  rw [← h2]
  exact h1
end Lw
end
section
set_option Elab.async false
set_option linter.all false
set_option maxRecDepth 100000
set_option maxHeartbeats 4000000
open PySem PySem.Spec PyProof.Rows L2 PD
namespace Lw
variable [TB]
theorem fn_never {P : Program} {w : World} {K : PySem.W.Frag} {mg : Str → Option Value} {base : Heap} {k : Nat} {f : Addr} {fd : FuncData} {ps : List Str} {fr : Bool} : FnG P w K mg base CX0 k f fd ps (spD K fr fun _ _ _ _ => False) :=
  ⟨fun _ _ _ _ ⟨_, _, _, _, _, _, _, z⟩ => z.elim, fun _ _ _ _ _ _ _ _ _ _ _ _ _ ⟨_, _, _, _, _, _, _, z⟩ => z.elim⟩
theorem mono_never : MonoF fun _ _ _ _ => False := fun _ _ _ _ _ _ _ _ z => z

theorem mono_is_integer : MonoF S_is_integer := fun avs hd Q Q' E E' w _ ⟨v0, e, q⟩ => ⟨v0, e, w _ _ q⟩
theorem len_is_integer : ∀ avs hd Q E, S_is_integer avs hd Q E → avs.length = P_is_integer.length := fun _ _ _ _ ⟨_, e, _⟩ => by rw [e]; rfl
theorem ok_is_integer {P : Program} {w : World} {K : PySem.W.Frag} {mg : Str → Option Value} {base : Heap} (T : Txt K mg) (W : Tbs P w base T) : FnG P w K mg base CX0 1 T.f_is_integer T.d_is_integer P_is_integer (spD K false S_is_integer) :=
  fnD (k := 0) T.F_is_integer sc_is_integer len_is_integer fun cdv A outer s H E hr => ⟨_, wk_is_integer T W  cdv A outer s H E hr, rd_is_integer⟩
theorem mono_is_within : MonoF S_is_within := fun avs hd Q Q' E E' w _ ⟨v0, v1, v2, e, c0, c1, q⟩ => ⟨v0, v1, v2, e, c0, c1, w _ _ q⟩
theorem len_is_within : ∀ avs hd Q E, S_is_within avs hd Q E → avs.length = P_is_within.length := fun _ _ _ _ ⟨_, _, _, e, _⟩ => by rw [e]; rfl
theorem ok_is_within {P : Program} {w : World} {K : PySem.W.Frag} {mg : Str → Option Value} {base : Heap} (T : Txt K mg) (W : Tbs P w base T) : FnG P w K mg base CX0 2 T.f_is_within T.d_is_within P_is_within (spD K false S_is_within) :=
  fnD (k := 1) T.F_is_within sc_is_within len_is_within fun cdv A outer s H E hr => ⟨_, wk_is_within T W mono_is_integer ((ok_is_integer T W).mono (by decide)) cdv A outer s H E hr, rd_is_within⟩
theorem mono_is_flag : MonoF S_is_flag := fun avs hd Q Q' E E' w _ ⟨v0, e, q⟩ => ⟨v0, e, w _ _ q⟩
theorem len_is_flag : ∀ avs hd Q E, S_is_flag avs hd Q E → avs.length = P_is_flag.length := fun _ _ _ _ ⟨_, e, _⟩ => by rw [e]; rfl
theorem ok_is_flag {P : Program} {w : World} {K : PySem.W.Frag} {mg : Str → Option Value} {base : Heap} (T : Txt K mg) (W : Tbs P w base T) : FnG P w K mg base CX0 1 T.f_is_flag T.d_is_flag P_is_flag (spD K false S_is_flag) :=
  fnD (k := 0) T.F_is_flag sc_is_flag len_is_flag fun cdv A outer s H E hr => ⟨_, wk_is_flag T W  cdv A outer s H E hr, rd_is_flag⟩
theorem mono_is_sized : MonoF S_is_sized := fun avs hd Q Q' E E' w _ ⟨v0, v1, v2, e, q⟩ => ⟨v0, v1, v2, e, w _ _ q⟩
theorem len_is_sized : ∀ avs hd Q E, S_is_sized avs hd Q E → avs.length = P_is_sized.length := fun _ _ _ _ ⟨_, _, _, e, _⟩ => by rw [e]; rfl
theorem ok_is_sized {P : Program} {w : World} {K : PySem.W.Frag} {mg : Str → Option Value} {base : Heap} (T : Txt K mg) (W : Tbs P w base T) : FnG P w K mg base CX0 1 T.f_is_sized T.d_is_sized P_is_sized (spD K false S_is_sized) :=
  fnD (k := 0) T.F_is_sized sc_is_sized len_is_sized fun cdv A outer s H E hr => ⟨_, wk_is_sized T W  cdv A outer s H E hr, rd_is_sized⟩
theorem mono_are_rising : MonoF S_are_rising := fun avs hd Q Q' E E' w _ ⟨v0, e, c0, c1, q⟩ => ⟨v0, e, c0, c1, w _ _ q⟩
theorem len_are_rising : ∀ avs hd Q E, S_are_rising avs hd Q E → avs.length = P_are_rising.length := fun _ _ _ _ ⟨_, e, _⟩ => by rw [e]; rfl
theorem ok_are_rising {P : Program} {w : World} {K : PySem.W.Frag} {mg : Str → Option Value} {base : Heap} (T : Txt K mg) (W : Tbs P w base T) : FnG P w K mg base CX0 1 T.f_are_rising T.d_are_rising P_are_rising (spD K false S_are_rising) :=
  fnD (k := 0) T.F_are_rising sc_are_rising len_are_rising fun cdv A outer s H E hr => ⟨_, wk_are_rising T W  cdv A outer s H E hr, rd_are_rising⟩
theorem mono_is_name : MonoF S_is_name := fun avs hd Q Q' E E' w _ ⟨v0, e, c0, q⟩ => ⟨v0, e, c0, w _ _ q⟩
theorem len_is_name : ∀ avs hd Q E, S_is_name avs hd Q E → avs.length = P_is_name.length := fun _ _ _ _ ⟨_, e, _⟩ => by rw [e]; rfl
theorem ok_is_name {P : Program} {w : World} {K : PySem.W.Frag} {mg : Str → Option Value} {base : Heap} (T : Txt K mg) (W : Tbs P w base T) : FnG P w K mg base CX0 1 T.f_is_name T.d_is_name P_is_name (spD K false S_is_name) :=
  fnD (k := 0) T.F_is_name sc_is_name len_is_name fun cdv A outer s H E hr => ⟨_, wk_is_name T W  cdv A outer s H E hr, rd_is_name⟩
theorem mono_is_text : MonoF S_is_text := fun avs hd Q Q' E E' w _ ⟨v0, e, c0, q⟩ => ⟨v0, e, c0, w _ _ q⟩
theorem len_is_text : ∀ avs hd Q E, S_is_text avs hd Q E → avs.length = P_is_text.length := fun _ _ _ _ ⟨_, e, _⟩ => by rw [e]; rfl
theorem ok_is_text {P : Program} {w : World} {K : PySem.W.Frag} {mg : Str → Option Value} {base : Heap} (T : Txt K mg) (W : Tbs P w base T) : FnG P w K mg base CX0 1 T.f_is_text T.d_is_text P_is_text (spD K false S_is_text) :=
  fnD (k := 0) T.F_is_text sc_is_text len_is_text fun cdv A outer s H E hr => ⟨_, wk_is_text T W  cdv A outer s H E hr, rd_is_text⟩
theorem mono_is_mode : MonoF S_is_mode := fun avs hd Q Q' E E' w _ ⟨v0, e, c0, q⟩ => ⟨v0, e, c0, w _ _ q⟩
theorem len_is_mode : ∀ avs hd Q E, S_is_mode avs hd Q E → avs.length = P_is_mode.length := fun _ _ _ _ ⟨_, e, _⟩ => by rw [e]; rfl
theorem ok_is_mode {P : Program} {w : World} {K : PySem.W.Frag} {mg : Str → Option Value} {base : Heap} (T : Txt K mg) (W : Tbs P w base T) : FnG P w K mg base CX0 3 T.f_is_mode T.d_is_mode P_is_mode (spD K false S_is_mode) :=
  fnD (k := 2) T.F_is_mode sc_is_mode len_is_mode fun cdv A outer s H E hr => ⟨_, wk_is_mode T W mono_is_within ((ok_is_within T W).mono (by decide)) cdv A outer s H E hr, rd_is_mode⟩
theorem mono_are_named : MonoF S_are_named := fun avs hd Q Q' E E' w _ ⟨v0, e, c0, c1, q⟩ => ⟨v0, e, c0, c1, w _ _ q⟩
theorem len_are_named : ∀ avs hd Q E, S_are_named avs hd Q E → avs.length = P_are_named.length := fun _ _ _ _ ⟨_, e, _⟩ => by rw [e]; rfl
theorem ok_are_named {P : Program} {w : World} {K : PySem.W.Frag} {mg : Str → Option Value} {base : Heap} (T : Txt K mg) (W : Tbs P w base T) : FnG P w K mg base CX0 2 T.f_are_named T.d_are_named P_are_named (spD K false S_are_named) :=
  fnD (k := 1) T.F_are_named sc_are_named len_are_named fun cdv A outer s H E hr => ⟨_, wk_are_named T W mono_is_sized ((ok_is_sized T W).mono (by decide)) mono_are_rising ((ok_are_rising T W).mono (by decide)) mono_is_name ((ok_is_name T W).mono (by decide)) cdv A outer s H E hr, rd_are_named⟩
theorem mono_is_small_node : MonoF S_is_small_node := fun avs hd Q Q' E E' w _ ⟨v0, e, c0, q⟩ => ⟨v0, e, c0, w _ _ q⟩
theorem len_is_small_node : ∀ avs hd Q E, S_is_small_node avs hd Q E → avs.length = P_is_small_node.length := fun _ _ _ _ ⟨_, e, _⟩ => by rw [e]; rfl
theorem ok_is_small_node {P : Program} {w : World} {K : PySem.W.Frag} {mg : Str → Option Value} {base : Heap} (T : Txt K mg) (W : Tbs P w base T) : FnG P w K mg base CX0 4 T.f_is_small_node T.d_is_small_node P_is_small_node (spD K false S_is_small_node) :=
  fnD (k := 3) T.F_is_small_node sc_is_small_node len_is_small_node fun cdv A outer s H E hr => ⟨_, wk_is_small_node T W mono_is_text ((ok_is_text T W).mono (by decide)) mono_is_mode ((ok_is_mode T W).mono (by decide)) cdv A outer s H E hr, rd_is_small_node⟩
theorem mono_is_folder_node : MonoF S_is_folder_node := fun avs hd Q Q' E E' w _ ⟨v0, v1, e, c0, q⟩ => ⟨v0, v1, e, c0, w _ _ q⟩
theorem len_is_folder_node : ∀ avs hd Q E, S_is_folder_node avs hd Q E → avs.length = P_is_folder_node.length := fun _ _ _ _ ⟨_, _, e, _⟩ => by rw [e]; rfl
theorem ok_is_folder_node {P : Program} {w : World} {K : PySem.W.Frag} {mg : Str → Option Value} {base : Heap} (T : Txt K mg) (W : Tbs P w base T) : FnG P w K mg base CX0 4 T.f_is_folder_node T.d_is_folder_node P_is_folder_node (spD K false S_is_folder_node) :=
  fnD (k := 3) T.F_is_folder_node sc_is_folder_node len_is_folder_node fun cdv A outer s H E hr => ⟨_, wk_is_folder_node T W mono_is_sized ((ok_is_sized T W).mono (by decide)) mono_is_mode ((ok_is_mode T W).mono (by decide)) mono_are_named ((ok_are_named T W).mono (by decide)) cdv A outer s H E hr, rd_is_folder_node⟩
theorem mono_is_node : MonoF S_is_node := fun avs hd Q Q' E E' w _ ⟨v0, v1, e, c0, c1, c2, q⟩ => ⟨v0, v1, e, c0, c1, c2, w _ _ q⟩
theorem len_is_node : ∀ avs hd Q E, S_is_node avs hd Q E → avs.length = P_is_node.length := fun _ _ _ _ ⟨_, _, e, _⟩ => by rw [e]; rfl
theorem ok_is_node {P : Program} {w : World} {K : PySem.W.Frag} {mg : Str → Option Value} {base : Heap} (T : Txt K mg) (W : Tbs P w base T) : FnG P w K mg base CX0 5 T.f_is_node T.d_is_node P_is_node (spD K false S_is_node) :=
  fnD (k := 4) T.F_is_node sc_is_node len_is_node fun cdv A outer s H E hr => ⟨_, wk_is_node T W mono_is_small_node ((ok_is_small_node T W).mono (by decide)) mono_is_folder_node ((ok_is_folder_node T W).mono (by decide)) cdv A outer s H E hr, rd_is_node⟩
theorem mono_is_tree : MonoF S_is_tree := fun avs hd Q Q' E E' w _ ⟨v0, v1, e, c0, c1, c2, c3, q⟩ => ⟨v0, v1, e, c0, c1, c2, c3, w _ _ q⟩
theorem len_is_tree : ∀ avs hd Q E, S_is_tree avs hd Q E → avs.length = P_is_tree.length := fun _ _ _ _ ⟨_, _, e, _⟩ => by rw [e]; rfl
theorem ok_is_tree {P : Program} {w : World} {K : PySem.W.Frag} {mg : Str → Option Value} {base : Heap} (T : Txt K mg) (W : Tbs P w base T) : FnG P w K mg base CX0 6 T.f_is_tree T.d_is_tree P_is_tree (spD K false S_is_tree) :=
  fnD (k := 5) T.F_is_tree sc_is_tree len_is_tree fun cdv A outer s H E hr => ⟨_, wk_is_tree T W mono_is_folder_node ((ok_is_folder_node T W).mono (by decide)) mono_is_node ((ok_is_node T W).mono (by decide)) cdv A outer s H E hr, rd_is_tree⟩
theorem mono_check_tree : MonoF S_check_tree := fun avs hd Q Q' E E' w _ ⟨v0, v1, e, c0, c1, c2, c3, q⟩ => ⟨v0, v1, e, c0, c1, c2, c3, w _ _ q⟩
theorem len_check_tree : ∀ avs hd Q E, S_check_tree avs hd Q E → avs.length = P_check_tree.length := fun _ _ _ _ ⟨_, _, e, _⟩ => by rw [e]; rfl
theorem ok_check_tree {P : Program} {w : World} {K : PySem.W.Frag} {mg : Str → Option Value} {base : Heap} (T : Txt K mg) (W : Tbs P w base T) : FnG P w K mg base CX0 7 T.f_check_tree T.d_check_tree P_check_tree (spD K false S_check_tree) :=
  fnD (k := 6) T.F_check_tree sc_check_tree len_check_tree fun cdv A outer s H E hr => ⟨_, wk_check_tree T W mono_is_tree ((ok_is_tree T W).mono (by decide)) cdv A outer s H E hr, rd_check_tree⟩
theorem mono_kind_of : MonoF S_kind_of := fun avs hd Q Q' E E' w _ ⟨v0, e, q⟩ => ⟨v0, e, w _ _ q⟩
theorem len_kind_of : ∀ avs hd Q E, S_kind_of avs hd Q E → avs.length = P_kind_of.length := fun _ _ _ _ ⟨_, e, _⟩ => by rw [e]; rfl
theorem ok_kind_of {P : Program} {w : World} {K : PySem.W.Frag} {mg : Str → Option Value} {base : Heap} (T : Txt K mg) (W : Tbs P w base T) : FnG P w K mg base CX0 1 T.f_kind_of T.d_kind_of P_kind_of (spD K false S_kind_of) :=
  fnD (k := 0) T.F_kind_of sc_kind_of len_kind_of fun cdv A outer s H E hr => ⟨_, wk_kind_of T W  cdv A outer s H E hr, rd_kind_of⟩
theorem mono_nodes_in : MonoF S_nodes_in := fun avs hd Q Q' E E' w _ ⟨v0, e, c0, q⟩ => ⟨v0, e, c0, fun a0 a1 => w _ _ (q a0 a1)⟩
theorem len_nodes_in : ∀ avs hd Q E, S_nodes_in avs hd Q E → avs.length = P_nodes_in.length := fun _ _ _ _ ⟨_, e, _⟩ => by rw [e]; rfl
theorem ok_nodes_in {P : Program} {w : World} {K : PySem.W.Frag} {mg : Str → Option Value} {base : Heap} (T : Txt K mg) (W : Tbs P w base T) : FnG P w K mg base CX0 1 T.f_nodes_in T.d_nodes_in P_nodes_in (spD K false S_nodes_in) :=
  fnD (k := 0) T.F_nodes_in sc_nodes_in len_nodes_in fun cdv A outer s H E hr => ⟨_, wk_nodes_in T W  cdv A outer s H E hr, rd_nodes_in⟩
theorem mono_is_folder_mark : MonoF S_is_folder_mark := fun avs hd Q Q' E E' w _ ⟨v0, v1, e, c0, q⟩ => ⟨v0, v1, e, c0, w _ _ q⟩
theorem len_is_folder_mark : ∀ avs hd Q E, S_is_folder_mark avs hd Q E → avs.length = P_is_folder_mark.length := fun _ _ _ _ ⟨_, _, e, _⟩ => by rw [e]; rfl
theorem ok_is_folder_mark {P : Program} {w : World} {K : PySem.W.Frag} {mg : Str → Option Value} {base : Heap} (T : Txt K mg) (W : Tbs P w base T) : FnG P w K mg base CX0 4 T.f_is_folder_mark T.d_is_folder_mark P_is_folder_mark (spD K false S_is_folder_mark) :=
  fnD (k := 3) T.F_is_folder_mark sc_is_folder_mark len_is_folder_mark fun cdv A outer s H E hr => ⟨_, wk_is_folder_mark T W mono_is_flag ((ok_is_flag T W).mono (by decide)) mono_is_sized ((ok_is_sized T W).mono (by decide)) mono_is_mode ((ok_is_mode T W).mono (by decide)) mono_are_named ((ok_are_named T W).mono (by decide)) cdv A outer s H E hr, rd_is_folder_mark⟩
theorem mono_is_gone : MonoF S_is_gone := fun avs hd Q Q' E E' w _ ⟨v0, e, q⟩ => ⟨v0, e, w _ _ q⟩
theorem len_is_gone : ∀ avs hd Q E, S_is_gone avs hd Q E → avs.length = P_is_gone.length := fun _ _ _ _ ⟨_, e, _⟩ => by rw [e]; rfl
theorem ok_is_gone {P : Program} {w : World} {K : PySem.W.Frag} {mg : Str → Option Value} {base : Heap} (T : Txt K mg) (W : Tbs P w base T) : FnG P w K mg base CX0 2 T.f_is_gone T.d_is_gone P_is_gone (spD K false S_is_gone) :=
  fnD (k := 1) T.F_is_gone sc_is_gone len_is_gone fun cdv A outer s H E hr => ⟨_, wk_is_gone T W mono_is_sized ((ok_is_sized T W).mono (by decide)) cdv A outer s H E hr, rd_is_gone⟩
theorem mono_is_layer : MonoF S_is_layer := fun avs hd Q Q' E E' w _ ⟨v0, v1, e, c0, c1, c2, c3, q⟩ => ⟨v0, v1, e, c0, c1, c2, c3, w _ _ q⟩
theorem len_is_layer : ∀ avs hd Q E, S_is_layer avs hd Q E → avs.length = P_is_layer.length := fun _ _ _ _ ⟨_, _, e, _⟩ => by rw [e]; rfl
theorem ok_is_layer {P : Program} {w : World} {K : PySem.W.Frag} {mg : Str → Option Value} {base : Heap} (T : Txt K mg) (W : Tbs P w base T) : FnG P w K mg base CX0 5 T.f_is_layer T.d_is_layer P_is_layer (spD K false S_is_layer) :=
  fnD (k := 4) T.F_is_layer sc_is_layer len_is_layer fun cdv A outer s H E hr => ⟨_, wk_is_layer T W mono_is_small_node ((ok_is_small_node T W).mono (by decide)) mono_is_folder_mark ((ok_is_folder_mark T W).mono (by decide)) mono_is_gone ((ok_is_gone T W).mono (by decide)) cdv A outer s H E hr, rd_is_layer⟩
theorem mono_check_layer : MonoF S_check_layer := fun avs hd Q Q' E E' w _ ⟨v0, v1, e, c0, c1, c2, c3, q⟩ => ⟨v0, v1, e, c0, c1, c2, c3, w _ _ q⟩
theorem len_check_layer : ∀ avs hd Q E, S_check_layer avs hd Q E → avs.length = P_check_layer.length := fun _ _ _ _ ⟨_, _, e, _⟩ => by rw [e]; rfl
theorem ok_check_layer {P : Program} {w : World} {K : PySem.W.Frag} {mg : Str → Option Value} {base : Heap} (T : Txt K mg) (W : Tbs P w base T) : FnG P w K mg base CX0 6 T.f_check_layer T.d_check_layer P_check_layer (spD K false S_check_layer) :=
  fnD (k := 5) T.F_check_layer sc_check_layer len_check_layer fun cdv A outer s H E hr => ⟨_, wk_check_layer T W mono_is_layer ((ok_is_layer T W).mono (by decide)) cdv A outer s H E hr, rd_check_layer⟩
theorem zero_made_folder {avs hd Q E} (h : S_made_folder 0 avs hd Q E) : False := by
  obtain ⟨k, u, x, e, hu, hk, hx, hf, _⟩ := h
  obtain rfl : k = 0 := by omega
  cases hu <;> cases hf
theorem monoN_made_folder (n : Nat) : MonoF (S_made_folder n) := fun avs hd Q Q' E E' w _ ⟨v0, v1, v2, e, c0, c1, c2, c3, q⟩ => ⟨v0, v1, v2, e, c0, c1, c2, c3, fun a0 a1 => w _ _ (q a0 a1)⟩
theorem lenN_made_folder (n : Nat) : ∀ avs hd Q E, S_made_folder n avs hd Q E → avs.length = P_made_folder.length := fun _ _ _ _ ⟨_, _, _, e, _⟩ => by rw [e]; rfl
theorem mono_made_folder : MonoF (S_made_folder 12) := monoN_made_folder 12
theorem okN_made_folder {P : Program} {w : World} {K : PySem.W.Frag} {mg : Str → Option Value} {base : Heap} (T : Txt K mg) (W : Tbs P w base T) : ∀ n, FnG P w K mg base CX0 (n + 2) T.f_made_folder T.d_made_folder P_made_folder (spD K false (S_made_folder n))
  | 0 => fnDc (k := 1) T.F_made_folder sc_made_folder (lenN_made_folder 0) fun A outer s H E hr => ⟨_, wk_made_folder T W mono_kind_of ((ok_kind_of T W).mono (by first | decide | omega)) mono_never fn_never A outer s H E hr, fun avs hd Q E h => (zero_made_folder h).elim⟩
  | n + 1 => fnDc (k := n + 2) T.F_made_folder sc_made_folder (lenN_made_folder (n + 1)) fun A outer s H E hr => ⟨_, wk_made_folder T W mono_kind_of ((ok_kind_of T W).mono (by first | decide | omega)) (monoN_made_folder n) (okN_made_folder T W n) A outer s H E hr, rd_made_folder n⟩
theorem ok_made_folder {P : Program} {w : World} {K : PySem.W.Frag} {mg : Str → Option Value} {base : Heap} (T : Txt K mg) (W : Tbs P w base T) : FnG P w K mg base CX0 (14) T.f_made_folder T.d_made_folder P_made_folder (spD K false (S_made_folder 12)) := okN_made_folder T W 12
theorem mono_check_many : MonoF S_check_many := fun avs hd Q Q' E E' w _ ⟨v0, e, c0, q⟩ => ⟨v0, e, c0, w _ _ q⟩
theorem len_check_many : ∀ avs hd Q E, S_check_many avs hd Q E → avs.length = P_check_many.length := fun _ _ _ _ ⟨_, e, _⟩ => by rw [e]; rfl
theorem ok_check_many {P : Program} {w : World} {K : PySem.W.Frag} {mg : Str → Option Value} {base : Heap} (T : Txt K mg) (W : Tbs P w base T) : FnG P w K mg base CX0 2 T.f_check_many T.d_check_many P_check_many (spD K false S_check_many) :=
  fnD (k := 1) T.F_check_many sc_check_many len_check_many fun cdv A outer s H E hr => ⟨_, wk_check_many T W mono_nodes_in ((ok_nodes_in T W).mono (by decide)) cdv A outer s H E hr, rd_check_many⟩
theorem mono_raw_made : MonoF S_raw_made := fun avs hd Q Q' E E' w _ ⟨v0, v1, v2, v3, e, c0, c1, c2, c3, c4, c5, q⟩ => ⟨v0, v1, v2, v3, e, c0, c1, c2, c3, c4, c5, w _ _ q⟩
theorem len_raw_made : ∀ avs hd Q E, S_raw_made avs hd Q E → avs.length = P_raw_made.length := fun _ _ _ _ ⟨_, _, _, _, e, _⟩ => by rw [e]; rfl
theorem ok_raw_made {P : Program} {w : World} {K : PySem.W.Frag} {mg : Str → Option Value} {base : Heap} (T : Txt K mg) (W : Tbs P w base T) : FnG P w K mg base CX0 15 T.f_raw_made T.d_raw_made P_raw_made (spD K false S_raw_made) :=
  fnD (k := 14) T.F_raw_made sc_raw_made len_raw_made fun cdv A outer s H E hr => ⟨_, wk_raw_made T W mono_made_folder ((ok_made_folder T W).mono (by decide)) mono_check_many ((ok_check_many T W).mono (by decide)) cdv A outer s H E hr, rd_raw_made⟩
theorem mono_made : MonoF S_made := fun avs hd Q Q' E E' w _ ⟨v0, v1, v2, v3, e, c0, c1, c2, c3, c4, c5, c6, c7, c8, q⟩ => ⟨v0, v1, v2, v3, e, c0, c1, c2, c3, c4, c5, c6, c7, c8, w _ _ q⟩
theorem len_made : ∀ avs hd Q E, S_made avs hd Q E → avs.length = P_made.length := fun _ _ _ _ ⟨_, _, _, _, e, _⟩ => by rw [e]; rfl
theorem ok_made {P : Program} {w : World} {K : PySem.W.Frag} {mg : Str → Option Value} {base : Heap} (T : Txt K mg) (W : Tbs P w base T) : FnG P w K mg base CX0 16 T.f_made T.d_made P_made (spD K false S_made) :=
  fnD (k := 15) T.F_made sc_made len_made fun cdv A outer s H E hr => ⟨_, wk_made T W mono_check_tree ((ok_check_tree T W).mono (by decide)) mono_check_layer ((ok_check_layer T W).mono (by decide)) mono_raw_made ((ok_raw_made T W).mono (by decide)) cdv A outer s H E hr, rd_made⟩
theorem mono_all_marks : MonoF S_all_marks := fun avs hd Q Q' E E' w _ ⟨v0, e, c0, q⟩ => ⟨v0, e, c0, fun a0 a1 => w _ _ (q a0 a1)⟩
theorem len_all_marks : ∀ avs hd Q E, S_all_marks avs hd Q E → avs.length = P_all_marks.length := fun _ _ _ _ ⟨_, e, _⟩ => by rw [e]; rfl
theorem ok_all_marks {P : Program} {w : World} {K : PySem.W.Frag} {mg : Str → Option Value} {base : Heap} (T : Txt K mg) (W : Tbs P w base T) : FnG P w K mg base CX0 1 T.f_all_marks T.d_all_marks P_all_marks (spD K false S_all_marks) :=
  fnD (k := 0) T.F_all_marks sc_all_marks len_all_marks fun cdv A outer s H E hr => ⟨_, wk_all_marks T W  cdv A outer s H E hr, rd_all_marks⟩
theorem mono_check_marks : MonoF S_check_marks := fun avs hd Q Q' E E' w _ ⟨v0, e, c0, q⟩ => ⟨v0, e, c0, w _ _ q⟩
theorem len_check_marks : ∀ avs hd Q E, S_check_marks avs hd Q E → avs.length = P_check_marks.length := fun _ _ _ _ ⟨_, e, _⟩ => by rw [e]; rfl
theorem ok_check_marks {P : Program} {w : World} {K : PySem.W.Frag} {mg : Str → Option Value} {base : Heap} (T : Txt K mg) (W : Tbs P w base T) : FnG P w K mg base CX0 2 T.f_check_marks T.d_check_marks P_check_marks (spD K false S_check_marks) :=
  fnD (k := 1) T.F_check_marks sc_check_marks len_check_marks fun cdv A outer s H E hr => ⟨_, wk_check_marks T W mono_all_marks ((ok_all_marks T W).mono (by decide)) cdv A outer s H E hr, rd_check_marks⟩
theorem zero_joined_folder {avs hd Q E} (h : S_joined_folder 0 avs hd Q E) : False := by
  obtain ⟨k, o, o', d, es, es', h', e, hu, hx, hk, _⟩ := h
  obtain rfl : k = 0 := by omega
  cases hu
theorem monoN_joined_folder (n : Nat) : MonoF (S_joined_folder n) := fun avs hd Q Q' E E' w _ ⟨v0, v1, v2, v3, v4, v5, v6, e, c0, c1, c2, c3, q⟩ => ⟨v0, v1, v2, v3, v4, v5, v6, e, c0, c1, c2, c3, w _ _ q⟩
theorem lenN_joined_folder (n : Nat) : ∀ avs hd Q E, S_joined_folder n avs hd Q E → avs.length = P_joined_folder.length := fun _ _ _ _ ⟨_, _, _, _, _, _, _, e, _⟩ => by rw [e]; rfl
theorem mono_joined_folder : MonoF (S_joined_folder 6) := monoN_joined_folder 6
theorem monoN_joined (n : Nat) : MonoF (S_joined n) := fun avs hd Q Q' E E' w _ ⟨v0, v1, v2, v3, e, c0, c1, c2, c3, q⟩ => ⟨v0, v1, v2, v3, e, c0, c1, c2, c3, w _ _ q⟩
theorem lenN_joined (n : Nat) : ∀ avs hd Q E, S_joined n avs hd Q E → avs.length = P_joined.length := fun _ _ _ _ ⟨_, _, _, _, e, _⟩ => by rw [e]; rfl
theorem mono_joined : MonoF (S_joined 6) := monoN_joined 6
theorem okN_joined_folder {P : Program} {w : World} {K : PySem.W.Frag} {mg : Str → Option Value} {base : Heap} (T : Txt K mg) (W : Tbs P w base T) (n : Nat) : FnG P w K mg base CX0 (2 * n + 1) T.f_joined_folder T.d_joined_folder P_joined_folder (spD K false (S_joined_folder n)) ∧ FnG P w K mg base CX0 (2 * n + 2) T.f_joined T.d_joined P_joined (spD K false (S_joined n)) := by
  have up : ∀ n, FnG P w K mg base CX0 (2 * n + 1) T.f_joined_folder T.d_joined_folder P_joined_folder (spD K false (S_joined_folder n)) → FnG P w K mg base CX0 (2 * n + 2) T.f_joined T.d_joined P_joined (spD K false (S_joined n)) := fun n h => fnD (k := 2 * n + 1) T.F_joined sc_joined (lenN_joined n) fun cdv A outer s H E hr => ⟨_, wk_joined T W  (monoN_joined_folder n) h cdv A outer s H E hr, rd_joined n⟩
  induction n with
  | zero =>
    have h : FnG P w K mg base CX0 (2 * 0 + 1) T.f_joined_folder T.d_joined_folder P_joined_folder (spD K false (S_joined_folder 0)) := fnDc (k := 0) T.F_joined_folder sc_joined_folder (lenN_joined_folder 0) fun A outer s H E hr => ⟨_, wk_joined_folder T W  mono_never fn_never A outer s H E hr, fun avs hd Q E h => (zero_joined_folder h).elim⟩
    exact ⟨h, up 0 h⟩
  | succ n ih =>
    have h : FnG P w K mg base CX0 (2 * (n + 1) + 1) T.f_joined_folder T.d_joined_folder P_joined_folder (spD K false (S_joined_folder (n + 1))) := fnDc (k := 2 * n + 2) T.F_joined_folder sc_joined_folder (lenN_joined_folder (n + 1)) fun A outer s H E hr => ⟨_, wk_joined_folder T W  (monoN_joined n) ih.2 A outer s H E hr, rd_joined_folder n⟩
    exact ⟨h, up (n + 1) h⟩
theorem ok_joined_folder {P : Program} {w : World} {K : PySem.W.Frag} {mg : Str → Option Value} {base : Heap} (T : Txt K mg) (W : Tbs P w base T) : FnG P w K mg base CX0 (13) T.f_joined_folder T.d_joined_folder P_joined_folder (spD K false (S_joined_folder 6)) := (okN_joined_folder T W 6).1
theorem ok_joined {P : Program} {w : World} {K : PySem.W.Frag} {mg : Str → Option Value} {base : Heap} (T : Txt K mg) (W : Tbs P w base T) : FnG P w K mg base CX0 (14) T.f_joined T.d_joined P_joined (spD K false (S_joined 6)) := (okN_joined_folder T W 6).2
theorem mono_raw_behind : MonoF S_raw_behind := fun avs hd Q Q' E E' w _ ⟨v0, v1, v2, e, c0, c1, c2, c3, q⟩ => ⟨v0, v1, v2, e, c0, c1, c2, c3, w _ _ q⟩
theorem len_raw_behind : ∀ avs hd Q E, S_raw_behind avs hd Q E → avs.length = P_raw_behind.length := fun _ _ _ _ ⟨_, _, _, e, _⟩ => by rw [e]; rfl
theorem ok_raw_behind {P : Program} {w : World} {K : PySem.W.Frag} {mg : Str → Option Value} {base : Heap} (T : Txt K mg) (W : Tbs P w base T) : FnG P w K mg base CX0 15 T.f_raw_behind T.d_raw_behind P_raw_behind (spD K false S_raw_behind) :=
  fnD (k := 14) T.F_raw_behind sc_raw_behind len_raw_behind fun cdv A outer s H E hr => ⟨_, wk_raw_behind T W mono_check_marks ((ok_check_marks T W).mono (by decide)) mono_joined ((ok_joined T W).mono (by decide)) cdv A outer s H E hr, rd_raw_behind⟩
theorem mono_one_behind : MonoF S_one_behind := fun avs hd Q Q' E E' w _ ⟨v0, v1, v2, e, c0, c1, c2, c3, c4, c5, c6, c7, q⟩ => ⟨v0, v1, v2, e, c0, c1, c2, c3, c4, c5, c6, c7, w _ _ q⟩
theorem len_one_behind : ∀ avs hd Q E, S_one_behind avs hd Q E → avs.length = P_one_behind.length := fun _ _ _ _ ⟨_, _, _, e, _⟩ => by rw [e]; rfl
theorem ok_one_behind {P : Program} {w : World} {K : PySem.W.Frag} {mg : Str → Option Value} {base : Heap} (T : Txt K mg) (W : Tbs P w base T) : FnG P w K mg base CX0 16 T.f_one_behind T.d_one_behind P_one_behind (spD K false S_one_behind) :=
  fnD (k := 15) T.F_one_behind sc_one_behind len_one_behind fun cdv A outer s H E hr => ⟨_, wk_one_behind T W mono_check_layer ((ok_check_layer T W).mono (by decide)) mono_raw_behind ((ok_raw_behind T W).mono (by decide)) cdv A outer s H E hr, rd_one_behind⟩
theorem mono__law_draw : MonoF S__law_draw := fun avs hd Q Q' E E' w _ ⟨v0, e, c0, c1, c2, q⟩ => ⟨v0, e, c0, c1, c2, fun a0 a1 a2 a3 => w _ _ (q a0 a1 a2 a3)⟩
theorem len__law_draw : ∀ avs hd Q E, S__law_draw avs hd Q E → avs.length = P__law_draw.length := fun _ _ _ _ ⟨_, e, _⟩ => by rw [e]; rfl
theorem ok__law_draw {P : Program} {w : World} {K : PySem.W.Frag} {mg : Str → Option Value} {base : Heap} (T : Txt K mg) (W : Tbs P w base T) : FnG P w K mg base CX0 1 T.f__law_draw T.d__law_draw P__law_draw (spD K false S__law_draw) :=
  fnD (k := 0) T.F__law_draw sc__law_draw len__law_draw fun cdv A outer s H E hr => ⟨_, wk__law_draw T W  cdv A outer s H E hr, rd__law_draw⟩
theorem mono__law_any : MonoF S__law_any := fun avs hd Q Q' E E' w _ ⟨v0, e, c0, c1, c2, q⟩ => ⟨v0, e, c0, c1, c2, fun a0 a1 a2 a3 => w _ _ (q a0 a1 a2 a3)⟩
theorem len__law_any : ∀ avs hd Q E, S__law_any avs hd Q E → avs.length = P__law_any.length := fun _ _ _ _ ⟨_, e, _⟩ => by rw [e]; rfl
theorem ok__law_any {P : Program} {w : World} {K : PySem.W.Frag} {mg : Str → Option Value} {base : Heap} (T : Txt K mg) (W : Tbs P w base T) : FnG P w K mg base CX0 2 T.f__law_any T.d__law_any P__law_any (spD K false S__law_any) :=
  fnD (k := 1) T.F__law_any sc__law_any len__law_any fun cdv A outer s H E hr => ⟨_, wk__law_any T W mono__law_draw ((ok__law_draw T W).mono (by decide)) cdv A outer s H E hr, rd__law_any⟩
theorem monoN__law_is (n : Nat) : MonoF (S_is n) := fun avs hd Q Q' E E' w _ ⟨v0, e, c0, q⟩ => ⟨v0, e, c0, w _ _ q⟩
theorem lenN__law_is (n : Nat) : ∀ avs hd Q E, S_is n avs hd Q E → avs.length = P__law_is.length := fun _ _ _ _ ⟨_, e, _⟩ => by rw [e]; rfl
theorem mono__law_is : MonoF (S_is 13) := monoN__law_is 13
theorem okN__law_is {P : Program} {w : World} {K : PySem.W.Frag} {mg : Str → Option Value} {base : Heap} (T : Txt K mg) (W : Tbs P w base T) : ∀ n, FnG P w K mg base CX0 (n + 1) T.f__law_is T.d__law_is P__law_is (spD K false (S_is n))
  | 0 => fnD (k := 0) T.F__law_is sc__law_is (lenN__law_is 0) fun cdv A outer s H E hr => ⟨_, wk__law_is T W mono_never fn_never cdv A outer s H E hr, rd__law_is (fun _ _ _ _ => False) 0 (fun m d hd Q E e => nomatch e)⟩
  | n + 1 => fnD (k := n + 1) T.F__law_is sc__law_is (lenN__law_is (n + 1)) fun cdv A outer s H E hr => ⟨_, wk__law_is T W (monoN__law_is n) (okN__law_is T W n) cdv A outer s H E hr, rd__law_is (S_is n) (n + 1) fun m d hd Q E e z q => by cases e; exact ⟨d, rfl, z, q⟩⟩
theorem ok__law_is {P : Program} {w : World} {K : PySem.W.Frag} {mg : Str → Option Value} {base : Heap} (T : Txt K mg) (W : Tbs P w base T) : FnG P w K mg base CX0 (14) T.f__law_is T.d__law_is P__law_is (spD K false (S_is 13)) := okN__law_is T W 13
theorem mono__law_plain_one : MonoF S__law_plain_one := fun avs hd Q Q' E E' w _ ⟨e, c0, q⟩ => ⟨e, c0, fun a0 a1 a2 a3 => w _ _ (q a0 a1 a2 a3)⟩
theorem len__law_plain_one : ∀ avs hd Q E, S__law_plain_one avs hd Q E → avs.length = P__law_plain_one.length := fun _ _ _ _ ⟨e, _⟩ => by rw [e]; rfl
theorem ok__law_plain_one {P : Program} {w : World} {K : PySem.W.Frag} {mg : Str → Option Value} {base : Heap} (T : Txt K mg) (W : Tbs P w base T) : FnG P w K mg base CX0 3 T.f__law_plain_one T.d__law_plain_one P__law_plain_one (spD K false S__law_plain_one) :=
  fnD (k := 2) T.F__law_plain_one sc__law_plain_one len__law_plain_one fun cdv A outer s H E hr => ⟨_, wk__law_plain_one T W mono__law_draw ((ok__law_draw T W).mono (by decide)) mono__law_any ((ok__law_any T W).mono (by decide)) cdv A outer s H E hr, rd__law_plain_one⟩
theorem zero__law_layer {avs hd Q E} (h : S__law_layer 0 avs hd Q E) : False := by
  obtain ⟨deep, often, e, hn, _⟩ := h
  omega
theorem monoN__law_layer (n : Nat) : MonoF (S__law_layer n) := fun avs hd Q Q' E E' w _ ⟨v0, v1, e, c0, c1, c2, c3, q⟩ => ⟨v0, v1, e, c0, c1, c2, c3, fun a0 a1 a2 a3 a4 => w _ _ (q a0 a1 a2 a3 a4)⟩
theorem lenN__law_layer (n : Nat) : ∀ avs hd Q E, S__law_layer n avs hd Q E → avs.length = P__law_layer.length := fun _ _ _ _ ⟨_, _, e, _⟩ => by rw [e]; rfl
theorem mono__law_layer : MonoF (S__law_layer 4) := monoN__law_layer 4
theorem monoN__law_mark (n : Nat) : MonoF (S__law_mark n) := fun avs hd Q Q' E E' w _ ⟨v0, e, c0, c1, q⟩ => ⟨v0, e, c0, c1, fun a0 a1 a2 a3 => w _ _ (q a0 a1 a2 a3)⟩
theorem lenN__law_mark (n : Nat) : ∀ avs hd Q E, S__law_mark n avs hd Q E → avs.length = P__law_mark.length := fun _ _ _ _ ⟨_, e, _⟩ => by rw [e]; rfl
theorem mono__law_mark : MonoF (S__law_mark 4) := monoN__law_mark 4
theorem okN__law_layer {P : Program} {w : World} {K : PySem.W.Frag} {mg : Str → Option Value} {base : Heap} (T : Txt K mg) (W : Tbs P w base T) (n : Nat) : FnG P w K mg base CX0 (2 * n + 4) T.f__law_layer T.d__law_layer P__law_layer (spD K false (S__law_layer n)) ∧ FnG P w K mg base CX0 (2 * n + 5) T.f__law_mark T.d__law_mark P__law_mark (spD K false (S__law_mark n)) := by
  have up : ∀ n, FnG P w K mg base CX0 (2 * n + 4) T.f__law_layer T.d__law_layer P__law_layer (spD K false (S__law_layer n)) → FnG P w K mg base CX0 (2 * n + 5) T.f__law_mark T.d__law_mark P__law_mark (spD K false (S__law_mark n)) := fun n h => fnD (k := 2 * n + 4) T.F__law_mark sc__law_mark (lenN__law_mark n) fun cdv A outer s H E hr => ⟨_, wk__law_mark T W mono__law_draw ((ok__law_draw T W).mono (by first | decide | omega)) mono__law_plain_one ((ok__law_plain_one T W).mono (by first | decide | omega)) (monoN__law_layer n) h cdv A outer s H E hr, rd__law_mark n⟩
  induction n with
  | zero =>
    have h : FnG P w K mg base CX0 (2 * 0 + 4) T.f__law_layer T.d__law_layer P__law_layer (spD K false (S__law_layer 0)) := fnD (k := 3) T.F__law_layer sc__law_layer (lenN__law_layer 0) fun cdv A outer s H E hr => ⟨_, wk__law_layer T W mono__law_draw ((ok__law_draw T W).mono (by first | decide | omega)) mono_never fn_never cdv A outer s H E hr, fun avs hd Q E h => (zero__law_layer h).elim⟩
    exact ⟨h, up 0 h⟩
  | succ n ih =>
    have h : FnG P w K mg base CX0 (2 * (n + 1) + 4) T.f__law_layer T.d__law_layer P__law_layer (spD K false (S__law_layer (n + 1))) := fnD (k := 2 * n + 5) T.F__law_layer sc__law_layer (lenN__law_layer (n + 1)) fun cdv A outer s H E hr => ⟨_, wk__law_layer T W mono__law_draw ((ok__law_draw T W).mono (by first | decide | omega)) (monoN__law_mark n) ih.2 cdv A outer s H E hr, rd__law_layer n⟩
    exact ⟨h, up (n + 1) h⟩
theorem ok__law_layer {P : Program} {w : World} {K : PySem.W.Frag} {mg : Str → Option Value} {base : Heap} (T : Txt K mg) (W : Tbs P w base T) : FnG P w K mg base CX0 (12) T.f__law_layer T.d__law_layer P__law_layer (spD K false (S__law_layer 4)) := (okN__law_layer T W 4).1
theorem ok__law_mark {P : Program} {w : World} {K : PySem.W.Frag} {mg : Str → Option Value} {base : Heap} (T : Txt K mg) (W : Tbs P w base T) : FnG P w K mg base CX0 (13) T.f__law_mark T.d__law_mark P__law_mark (spD K false (S__law_mark 4)) := (okN__law_layer T W 4).2
theorem zero__law_tree {avs hd Q E} (h : S__law_tree 0 avs hd Q E) : False := by
  obtain ⟨deep, e, hn, _⟩ := h
  omega
theorem monoN__law_tree (n : Nat) : MonoF (S__law_tree n) := fun avs hd Q Q' E E' w _ ⟨v0, e, c0, c1, q⟩ => ⟨v0, e, c0, c1, fun a0 a1 a2 a3 a4 => w _ _ (q a0 a1 a2 a3 a4)⟩
theorem lenN__law_tree (n : Nat) : ∀ avs hd Q E, S__law_tree n avs hd Q E → avs.length = P__law_tree.length := fun _ _ _ _ ⟨_, e, _⟩ => by rw [e]; rfl
theorem mono__law_tree : MonoF (S__law_tree 4) := monoN__law_tree 4
theorem monoN__law_node (n : Nat) : MonoF (S__law_node n) := fun avs hd Q Q' E E' w _ ⟨v0, e, c0, c1, q⟩ => ⟨v0, e, c0, c1, fun a0 a1 a2 a3 => w _ _ (q a0 a1 a2 a3)⟩
theorem lenN__law_node (n : Nat) : ∀ avs hd Q E, S__law_node n avs hd Q E → avs.length = P__law_node.length := fun _ _ _ _ ⟨_, e, _⟩ => by rw [e]; rfl
theorem mono__law_node : MonoF (S__law_node 4) := monoN__law_node 4
theorem okN__law_tree {P : Program} {w : World} {K : PySem.W.Frag} {mg : Str → Option Value} {base : Heap} (T : Txt K mg) (W : Tbs P w base T) (n : Nat) : FnG P w K mg base CX0 (2 * n + 4) T.f__law_tree T.d__law_tree P__law_tree (spD K false (S__law_tree n)) ∧ FnG P w K mg base CX0 (2 * n + 5) T.f__law_node T.d__law_node P__law_node (spD K false (S__law_node n)) := by
  have up : ∀ n, FnG P w K mg base CX0 (2 * n + 4) T.f__law_tree T.d__law_tree P__law_tree (spD K false (S__law_tree n)) → FnG P w K mg base CX0 (2 * n + 5) T.f__law_node T.d__law_node P__law_node (spD K false (S__law_node n)) := fun n h => fnD (k := 2 * n + 4) T.F__law_node sc__law_node (lenN__law_node n) fun cdv A outer s H E hr => ⟨_, wk__law_node T W mono__law_draw ((ok__law_draw T W).mono (by first | decide | omega)) mono__law_plain_one ((ok__law_plain_one T W).mono (by first | decide | omega)) (monoN__law_tree n) h cdv A outer s H E hr, rd__law_node n⟩
  induction n with
  | zero =>
    have h : FnG P w K mg base CX0 (2 * 0 + 4) T.f__law_tree T.d__law_tree P__law_tree (spD K false (S__law_tree 0)) := fnD (k := 3) T.F__law_tree sc__law_tree (lenN__law_tree 0) fun cdv A outer s H E hr => ⟨_, wk__law_tree T W mono__law_draw ((ok__law_draw T W).mono (by first | decide | omega)) mono_never fn_never cdv A outer s H E hr, fun avs hd Q E h => (zero__law_tree h).elim⟩
    exact ⟨h, up 0 h⟩
  | succ n ih =>
    have h : FnG P w K mg base CX0 (2 * (n + 1) + 4) T.f__law_tree T.d__law_tree P__law_tree (spD K false (S__law_tree (n + 1))) := fnD (k := 2 * n + 5) T.F__law_tree sc__law_tree (lenN__law_tree (n + 1)) fun cdv A outer s H E hr => ⟨_, wk__law_tree T W mono__law_draw ((ok__law_draw T W).mono (by first | decide | omega)) (monoN__law_node n) ih.2 cdv A outer s H E hr, rd__law_tree n⟩
    exact ⟨h, up (n + 1) h⟩
theorem ok__law_tree {P : Program} {w : World} {K : PySem.W.Frag} {mg : Str → Option Value} {base : Heap} (T : Txt K mg) (W : Tbs P w base T) : FnG P w K mg base CX0 (12) T.f__law_tree T.d__law_tree P__law_tree (spD K false (S__law_tree 4)) := (okN__law_tree T W 4).1
theorem ok__law_node {P : Program} {w : World} {K : PySem.W.Frag} {mg : Str → Option Value} {base : Heap} (T : Txt K mg) (W : Tbs P w base T) : FnG P w K mg base CX0 (13) T.f__law_node T.d__law_node P__law_node (spD K false (S__law_node 4)) := (okN__law_tree T W 4).2
theorem mono__law_by_names : MonoF S__law_by_names := fun avs hd Q Q' E E' w _ ⟨v0, e, c0, c1, q⟩ => ⟨v0, e, c0, c1, w _ _ q⟩
theorem len__law_by_names : ∀ avs hd Q E, S__law_by_names avs hd Q E → avs.length = P__law_by_names.length := fun _ _ _ _ ⟨_, e, _⟩ => by rw [e]; rfl
theorem ok__law_by_names {P : Program} {w : World} {K : PySem.W.Frag} {mg : Str → Option Value} {base : Heap} (T : Txt K mg) (W : Tbs P w base T) : FnG P w K mg base CX0 1 T.f__law_by_names T.d__law_by_names P__law_by_names (spD K false S__law_by_names) :=
  fnD (k := 0) T.F__law_by_names sc__law_by_names len__law_by_names fun cdv A outer s H E hr => ⟨_, wk__law_by_names T W  cdv A outer s H E hr, rd__law_by_names⟩
theorem zero__law_made {avs hd Q E} (h : S__law_made 0 avs hd Q E) : False := by
  obtain ⟨k, u, x, e, hu, hk, hx, hf, _⟩ := h
  obtain rfl : k = 0 := by omega
  cases hu <;> cases hf
theorem monoN__law_made (n : Nat) : MonoF (S__law_made n) := fun avs hd Q Q' E E' w _ ⟨v0, v1, v2, e, c0, c1, c2, c3, c4, q⟩ => ⟨v0, v1, v2, e, c0, c1, c2, c3, c4, fun a0 a1 => w _ _ (q a0 a1)⟩
theorem lenN__law_made (n : Nat) : ∀ avs hd Q E, S__law_made n avs hd Q E → avs.length = P__law_made.length := fun _ _ _ _ ⟨_, _, _, e, _⟩ => by rw [e]; rfl
theorem mono__law_made : MonoF (S__law_made 12) := monoN__law_made 12
theorem okN__law_made {P : Program} {w : World} {K : PySem.W.Frag} {mg : Str → Option Value} {base : Heap} (T : Txt K mg) (W : Tbs P w base T) : ∀ n, FnG P w K mg base CX0 (n + 2) T.f__law_made T.d__law_made P__law_made (spD K false (S__law_made n))
  | 0 => fnD (k := 1) T.F__law_made sc__law_made (lenN__law_made 0) fun cdv A outer s H E hr => ⟨_, wk__law_made T W mono__law_by_names ((ok__law_by_names T W).mono (by first | decide | omega)) mono_never fn_never cdv A outer s H E hr, fun avs hd Q E h => (zero__law_made h).elim⟩
  | n + 1 => fnD (k := n + 2) T.F__law_made sc__law_made (lenN__law_made (n + 1)) fun cdv A outer s H E hr => ⟨_, wk__law_made T W mono__law_by_names ((ok__law_by_names T W).mono (by first | decide | omega)) (monoN__law_made n) (okN__law_made T W n) cdv A outer s H E hr, rd__law_made n⟩
theorem ok__law_made {P : Program} {w : World} {K : PySem.W.Frag} {mg : Str → Option Value} {base : Heap} (T : Txt K mg) (W : Tbs P w base T) : FnG P w K mg base CX0 (14) T.f__law_made T.d__law_made P__law_made (spD K false (S__law_made 12)) := okN__law_made T W 12
theorem zero__law_behind {avs hd Q E} (h : S__law_behind 0 avs hd Q E) : False := by
  obtain ⟨k, x, u, e, hu, hx, hk, hf, _⟩ := h
  obtain rfl : k = 0 := by omega
  cases hu <;> cases hf
theorem monoN__law_behind (n : Nat) : MonoF (S__law_behind n) := fun avs hd Q Q' E E' w _ ⟨v0, v1, v2, e, c0, c1, c2, c3, c4, q⟩ => ⟨v0, v1, v2, e, c0, c1, c2, c3, c4, w _ _ q⟩
theorem lenN__law_behind (n : Nat) : ∀ avs hd Q E, S__law_behind n avs hd Q E → avs.length = P__law_behind.length := fun _ _ _ _ ⟨_, _, _, e, _⟩ => by rw [e]; rfl
theorem mono__law_behind : MonoF (S__law_behind 10) := monoN__law_behind 10
theorem okN__law_behind {P : Program} {w : World} {K : PySem.W.Frag} {mg : Str → Option Value} {base : Heap} (T : Txt K mg) (W : Tbs P w base T) : ∀ n, FnG P w K mg base CX0 (n + 2) T.f__law_behind T.d__law_behind P__law_behind (spD K false (S__law_behind n))
  | 0 => fnD (k := 1) T.F__law_behind sc__law_behind (lenN__law_behind 0) fun cdv A outer s H E hr => ⟨_, wk__law_behind T W mono__law_by_names ((ok__law_by_names T W).mono (by first | decide | omega)) mono_never fn_never cdv A outer s H E hr, fun avs hd Q E h => (zero__law_behind h).elim⟩
  | n + 1 => fnD (k := n + 2) T.F__law_behind sc__law_behind (lenN__law_behind (n + 1)) fun cdv A outer s H E hr => ⟨_, wk__law_behind T W mono__law_by_names ((ok__law_by_names T W).mono (by first | decide | omega)) (monoN__law_behind n) (okN__law_behind T W n) cdv A outer s H E hr, rd__law_behind n⟩
theorem ok__law_behind {P : Program} {w : World} {K : PySem.W.Frag} {mg : Str → Option Value} {base : Heap} (T : Txt K mg) (W : Tbs P w base T) : FnG P w K mg base CX0 (12) T.f__law_behind T.d__law_behind P__law_behind (spD K false (S__law_behind 10)) := okN__law_behind T W 10
theorem mono__law_trees : MonoF S__law_trees := fun avs hd Q Q' E E' w _ ⟨e, c0, q⟩ => ⟨e, c0, fun a0 a1 a2 a3 a4 => w _ _ (q a0 a1 a2 a3 a4)⟩
theorem len__law_trees : ∀ avs hd Q E, S__law_trees avs hd Q E → avs.length = P__law_trees.length := fun _ _ _ _ ⟨e, _⟩ => by rw [e]; rfl
theorem ok__law_trees {P : Program} {w : World} {K : PySem.W.Frag} {mg : Str → Option Value} {base : Heap} (T : Txt K mg) (W : Tbs P w base T) : FnG P w K mg base CX0 14 T.f__law_trees T.d__law_trees P__law_trees (spD K false S__law_trees) :=
  fnD (k := 13) T.F__law_trees sc__law_trees len__law_trees fun cdv A outer s H E hr => ⟨_, wk__law_trees T W mono__law_tree ((ok__law_tree T W).mono (by decide)) cdv A outer s H E hr, rd__law_trees⟩
theorem mono__law_is_right : MonoF S__law_is_right := fun avs hd Q Q' E E' w _ ⟨e, c0, q⟩ => ⟨e, c0, fun a0 a1 => w _ _ (q a0 a1)⟩
theorem len__law_is_right : ∀ avs hd Q E, S__law_is_right avs hd Q E → avs.length = P__law_is_right.length := fun _ _ _ _ ⟨e, _⟩ => by rw [e]; rfl
theorem ok__law_is_right {P : Program} {w : World} {K : PySem.W.Frag} {mg : Str → Option Value} {base : Heap} (T : Txt K mg) (W : Tbs P w base T) : FnG P w K mg base CX0 17 T.f__law_is_right T.d__law_is_right P__law_is_right (spD K false S__law_is_right) :=
  fnD (k := 16) T.F__law_is_right sc__law_is_right len__law_is_right fun cdv A outer s H E hr => ⟨_, wk__law_is_right T W mono_made ((ok_made T W).mono (by decide)) mono_one_behind ((ok_one_behind T W).mono (by decide)) mono__law_any ((ok__law_any T W).mono (by decide)) mono__law_is ((ok__law_is T W).mono (by decide)) mono__law_layer ((ok__law_layer T W).mono (by decide)) mono__law_made ((ok__law_made T W).mono (by decide)) mono__law_behind ((ok__law_behind T W).mono (by decide)) mono__law_trees ((ok__law_trees T W).mono (by decide)) cdv A outer s H E hr, rd__law_is_right⟩
end Lw
end
section
set_option Elab.async false
set_option linter.all false
set_option maxRecDepth 100000
set_option maxHeartbeats 4000000
open PySem PySem.Spec PyProof.Rows L2 PD
namespace Lw
variable [TB]
theorem ok__law_hand {P : Program} {w : World} {K : PySem.W.Frag} {mg : Str → Option Value} {base : Heap} (T : Txt K mg) (W : Tbs P w base T) : FnG P w K mg base CX0 1 T.f__law_hand T.d__law_hand P__law_hand (spHand K) := by
  refine Fun.okG T.F__law_hand sc__law_hand (fun vs H Q E ⟨a, ns, e, _⟩ => by rw [e]; rfl) fun cdv A outer s H vs Q E hr h => ?_
  have hu := hu64 hr
  have h' := h
  obtain ⟨a, ns, rfl, _⟩ := h'
  refine ⟨_, PSs.nox (pss_cons (ps_setLc (i := 1) (own := [("cell", 2)]) (g := gName 2) (tt := L2.tYes) (te := lift K tAbs2) rfl sc__law_hand.nd rfl rfl (sw_true rfl rfl rfl (by decide +kernel)) (pi_list (pe_slice sl_list (pv 0) po_none (po_some pe_int))) (blkOk_by (own := [("cell", 2)]) (N := N__law_hand) (sc := defScope s__law_hand) (by decide +kernel)) (fun _ _ _ _ _ => pg_name (i := 2) sc__law_hand.nd rfl (Or.inl rfl)) (fun _ _ _ _ _ => pts_nil)
    (fun _ _ _ _ _ => DE.pe (t := tAbs2) (de_callB call_absP (by rfl) T.m_abs bt_abs (dls_cons (DE.dl (de_callTy call_intP (by rfl) T.m_int bt_int (dls_cons (dl_var 2) dls_nil))) dls_nil))))
    (DSs.ps (dss_cons (ds_ret (DE.x (DF.de (df_lst (da_cons (de_var 1) (da_cons de_int (da_cons de_int (da_cons (de_op op_addD (DE.dl de_int) (DE.dl (de_op op_mulD (DE.dl de_int) (DE.dl (de_callB call_lenP (by rfl) T.m_len bt_len (dls_cons (dl_var 1) dls_nil)))))) (da_cons de_int da_nil))))))))) dss_nil))), ?_⟩
  exact hand_read h rfl
theorem pss_law {X : Cx} {b : List Stmt} {s : Stmt} {t u : TS} (h0 : b.head? = some s) (hs : PS X s t) (hr : PSs X (b.drop 1) u) : PSs X b (tSeq t u) := by
  cases b with
  | nil => cases h0
  | cons x b =>
    cases h0
    exact pss_cons hs hr
theorem ok_law {P : Program} {w : World} {K : PySem.W.Frag} {mg : Str → Option Value} {base : Heap} (T : Txt K mg) (W : Tbs P w base T) : FnG P w K mg base CX0 18 T.f_law T.d_law ["script"] (spLaw K) := by
  refine (Fun.okG T.F_law (k := 17) sc_law (fun vs H Q E ⟨a, ns, e, _⟩ => by rw [e]; rfl) fun cdv A outer s H vs Q E hr h => ?_)
  obtain ⟨a, ns, rfl, hs, hl, hT, q⟩ := h
  have Wk := wk_law (P := P) (w := w) (base := base) T W mono_one_behind ((ok_one_behind T W).mono (by decide)) mono__law_is_right ((ok__law_is_right T W).mono (by decide)) cdv A outer s H E hr
  refine ⟨_, PSs.nox (pss_law (X := (cxOf CX0 P w K mg base N_law "law" (defScope s_law) T.f_law cdv A outer s H E).nox) (b := defBody s_law) rfl (ps_set (i := 1) sc_law.nd rfl (by first | exact .inl rfl | exact .inr rfl) (pe_callG (ok__law_hand T W) (hr.mono (by decide)) (by rfl) T.g__law_hand T.F__law_hand.kp T.b__law_hand .nil pass0 (pa_cons (pv 0) pa_nil))) Wk.ps), ?_⟩
  exact law_read (i := 1) (m := N_law.length - 1) Wk.mono hs hl hT rfl q (by decide) fun hd hh => rd_law hd hh
end Lw
end
section
set_option Elab.async false
set_option linter.all false
set_option maxRecDepth 100000
set_option maxHeartbeats 4000000
open PySem PySem.Spec PyProof.Rows L2 PD
namespace Lw
theorem all_mk {l : PySem.W.OpenLaw} {w : World} {K : PySem.W.Frag} {h : Heap} {mg : Str → Option Value} {fa : Addr} (X : K.In h) (G : h.Ns mainGlobals mg) (hfa : mg "law" = some (.ref fa))
  {f0 f1 f2 f3 f4 f5 f6 f7 f8 f9 f10 f11 f12 f13 f14 f15 f16 f17 f18 f19 f20 f21 f22 f23 f24 f25 f26 f27 f28 f29 f30 f31 f32 f33 f34 f35 f36 f37 f38 f39 f40 f41 f42 f43 f44 : Addr} {od0 an0 od1 an1 od2 an2 od3 an3 od4 an4 od5 an5 od6 an6 od7 an7 od8 an8 od9 an9 od10 an10 od11 an11 od12 an12 od13 an13 od14 an14 od15 an15 od16 an16 od17 an17 od18 an18 od19 an19 od20 an20 od21 an21 od22 an22 od23 an23 od24 an24 od25 an25 od26 an26 od27 an27 od28 an28 od29 an29 od30 an30 od31 an31 od32 an32 od33 an33 od34 an34 od35 an35 od36 an36 od37 an37 od38 an38 od39 an39 od40 an40 od41 an41 od42 an42 od43 an43 od44 an44 : Option Addr} {sl0 sl1 sl2 sl3 sl4 sl5 sl6 sl7 sl8 sl9 sl10 sl11 sl12 sl13 sl14 sl15 sl16 sl17 sl18 sl19 sl20 sl21 sl22 sl23 sl24 sl25 sl26 sl27 sl28 sl29 sl30 sl31 sl32 sl33 sl34 sl35 sl36 sl37 sl38 sl39 sl40 sl41 sl42 sl43 sl44 : Array (Option Value)} {oc0 kV0 dc0 pm0 ct0 cd0 oc1 kV1 dc1 pm1 ct1 cd1 oc2 kV2 dc2 pm2 ct2 cd2 oc3 kV3 dc3 pm3 ct3 cd3 oc4 kV4 dc4 pm4 ct4 cd4 oc5 kV5 dc5 pm5 ct5 cd5 oc6 kV6 dc6 pm6 ct6 cd6 oc7 kV7 dc7 pm7 ct7 cd7 oc8 kV8 dc8 pm8 ct8 cd8 oc9 kV9 dc9 pm9 ct9 cd9 oc10 kV10 dc10 pm10 ct10 cd10 oc11 kV11 dc11 pm11 ct11 cd11 oc12 kV12 dc12 pm12 ct12 cd12 oc13 kV13 dc13 pm13 ct13 cd13 oc14 kV14 dc14 pm14 ct14 cd14 oc15 kV15 dc15 pm15 ct15 cd15 oc16 kV16 dc16 pm16 ct16 cd16 oc17 kV17 dc17 pm17 ct17 cd17 oc18 kV18 dc18 pm18 ct18 cd18 oc19 kV19 dc19 pm19 ct19 cd19 oc20 kV20 dc20 pm20 ct20 oc21 kV21 dc21 pm21 ct21 cd21 oc22 kV22 dc22 pm22 ct22 cd22 oc23 kV23 dc23 pm23 ct23 cd23 oc24 kV24 dc24 pm24 ct24 cd24 oc25 kV25 dc25 pm25 ct25 cd25 oc26 kV26 dc26 pm26 ct26 cd26 oc27 kV27 dc27 pm27 ct27 oc28 kV28 dc28 pm28 ct28 cd28 oc29 kV29 dc29 pm29 ct29 cd29 oc30 kV30 dc30 pm30 ct30 cd30 oc31 kV31 dc31 pm31 ct31 cd31 oc32 kV32 dc32 pm32 ct32 cd32 oc33 kV33 dc33 pm33 ct33 cd33 oc34 kV34 dc34 pm34 ct34 cd34 oc35 kV35 dc35 pm35 ct35 cd35 oc36 kV36 dc36 pm36 ct36 cd36 oc37 kV37 dc37 pm37 ct37 cd37 oc38 kV38 dc38 pm38 ct38 cd38 oc39 kV39 dc39 pm39 ct39 cd39 oc40 kV40 dc40 pm40 ct40 cd40 oc41 kV41 dc41 pm41 ct41 cd41 oc42 kV42 dc42 pm42 ct42 cd42 oc43 kV43 dc43 pm43 ct43 cd43 oc44 kV44 dc44 pm44 ct44 cd44 : Value} {t0 t1 t2 t3 t4 t5 t6 t7 t8 t9 t10 : Tok}
  {C20 P20 C27 P27 : Addr} {mc20 mc27 : Value} {md20 md27 : Option Addr} {mv20 mv27 : Array Value} {ms20 ms27 : Array (Option Value)}
  (a0 : PySem.W.nsIn K mainGlobals "is_integer" = some (some (.ref f0))) (l0 : K.lookup f0 = some ⟨oc0, od0, .func (PySem.W.fnOf "is_integer" "is_integer" (defArgs s_is_integer) (defBody s_is_integer) (defScope s_is_integer) .none kV0 dc0 pm0 an0 cd0 ct0), sl0⟩) (c0 : PySem.W.codeIn K cd0 "is_integer" = true) (k0 : PySem.W.keepIn K (.ref f0) = true)
  (a1 : PySem.W.nsIn K mainGlobals "is_within" = some (some (.ref f1))) (l1 : K.lookup f1 = some ⟨oc1, od1, .func (PySem.W.fnOf "is_within" "is_within" (defArgs s_is_within) (defBody s_is_within) (defScope s_is_within) .none kV1 dc1 pm1 an1 cd1 ct1), sl1⟩) (c1 : PySem.W.codeIn K cd1 "is_within" = true) (k1 : PySem.W.keepIn K (.ref f1) = true)
  (a2 : PySem.W.nsIn K mainGlobals "is_flag" = some (some (.ref f2))) (l2 : K.lookup f2 = some ⟨oc2, od2, .func (PySem.W.fnOf "is_flag" "is_flag" (defArgs s_is_flag) (defBody s_is_flag) (defScope s_is_flag) .none kV2 dc2 pm2 an2 cd2 ct2), sl2⟩) (c2 : PySem.W.codeIn K cd2 "is_flag" = true) (k2 : PySem.W.keepIn K (.ref f2) = true)
  (a3 : PySem.W.nsIn K mainGlobals "is_sized" = some (some (.ref f3))) (l3 : K.lookup f3 = some ⟨oc3, od3, .func (PySem.W.fnOf "is_sized" "is_sized" (defArgs s_is_sized) (defBody s_is_sized) (defScope s_is_sized) .none kV3 dc3 pm3 an3 cd3 ct3), sl3⟩) (c3 : PySem.W.codeIn K cd3 "is_sized" = true) (k3 : PySem.W.keepIn K (.ref f3) = true)
  (a4 : PySem.W.nsIn K mainGlobals "are_rising" = some (some (.ref f4))) (l4 : K.lookup f4 = some ⟨oc4, od4, .func (PySem.W.fnOf "are_rising" "are_rising" (defArgs s_are_rising) (defBody s_are_rising) (defScope s_are_rising) .none kV4 dc4 pm4 an4 cd4 ct4), sl4⟩) (c4 : PySem.W.codeIn K cd4 "are_rising" = true) (k4 : PySem.W.keepIn K (.ref f4) = true)
  (a5 : PySem.W.nsIn K mainGlobals "is_name" = some (some (.ref f5))) (l5 : K.lookup f5 = some ⟨oc5, od5, .func (PySem.W.fnOf "is_name" "is_name" (defArgs s_is_name) (defBody s_is_name) (defScope s_is_name) .none kV5 dc5 pm5 an5 cd5 ct5), sl5⟩) (c5 : PySem.W.codeIn K cd5 "is_name" = true) (k5 : PySem.W.keepIn K (.ref f5) = true)
  (a6 : PySem.W.nsIn K mainGlobals "is_text" = some (some (.ref f6))) (l6 : K.lookup f6 = some ⟨oc6, od6, .func (PySem.W.fnOf "is_text" "is_text" (defArgs s_is_text) (defBody s_is_text) (defScope s_is_text) .none kV6 dc6 pm6 an6 cd6 ct6), sl6⟩) (c6 : PySem.W.codeIn K cd6 "is_text" = true) (k6 : PySem.W.keepIn K (.ref f6) = true)
  (a7 : PySem.W.nsIn K mainGlobals "is_mode" = some (some (.ref f7))) (l7 : K.lookup f7 = some ⟨oc7, od7, .func (PySem.W.fnOf "is_mode" "is_mode" (defArgs s_is_mode) (defBody s_is_mode) (defScope s_is_mode) .none kV7 dc7 pm7 an7 cd7 ct7), sl7⟩) (c7 : PySem.W.codeIn K cd7 "is_mode" = true) (k7 : PySem.W.keepIn K (.ref f7) = true)
  (a8 : PySem.W.nsIn K mainGlobals "are_named" = some (some (.ref f8))) (l8 : K.lookup f8 = some ⟨oc8, od8, .func (PySem.W.fnOf "are_named" "are_named" (defArgs s_are_named) (defBody s_are_named) (defScope s_are_named) .none kV8 dc8 pm8 an8 cd8 ct8), sl8⟩) (c8 : PySem.W.codeIn K cd8 "are_named" = true) (k8 : PySem.W.keepIn K (.ref f8) = true)
  (a9 : PySem.W.nsIn K mainGlobals "is_small_node" = some (some (.ref f9))) (l9 : K.lookup f9 = some ⟨oc9, od9, .func (PySem.W.fnOf "is_small_node" "is_small_node" (defArgs s_is_small_node) (defBody s_is_small_node) (defScope s_is_small_node) .none kV9 dc9 pm9 an9 cd9 ct9), sl9⟩) (c9 : PySem.W.codeIn K cd9 "is_small_node" = true) (k9 : PySem.W.keepIn K (.ref f9) = true)
  (a10 : PySem.W.nsIn K mainGlobals "is_folder_node" = some (some (.ref f10))) (l10 : K.lookup f10 = some ⟨oc10, od10, .func (PySem.W.fnOf "is_folder_node" "is_folder_node" (defArgs s_is_folder_node) (defBody s_is_folder_node) (defScope s_is_folder_node) .none kV10 dc10 pm10 an10 cd10 ct10), sl10⟩) (c10 : PySem.W.codeIn K cd10 "is_folder_node" = true) (k10 : PySem.W.keepIn K (.ref f10) = true)
  (a11 : PySem.W.nsIn K mainGlobals "is_node" = some (some (.ref f11))) (l11 : K.lookup f11 = some ⟨oc11, od11, .func (PySem.W.fnOf "is_node" "is_node" (defArgs s_is_node) (defBody s_is_node) (defScope s_is_node) .none kV11 dc11 pm11 an11 cd11 ct11), sl11⟩) (c11 : PySem.W.codeIn K cd11 "is_node" = true) (k11 : PySem.W.keepIn K (.ref f11) = true)
  (a12 : PySem.W.nsIn K mainGlobals "is_tree" = some (some (.ref f12))) (l12 : K.lookup f12 = some ⟨oc12, od12, .func (PySem.W.fnOf "is_tree" "is_tree" (defArgs s_is_tree) (defBody s_is_tree) (defScope s_is_tree) .none kV12 dc12 pm12 an12 cd12 ct12), sl12⟩) (c12 : PySem.W.codeIn K cd12 "is_tree" = true) (k12 : PySem.W.keepIn K (.ref f12) = true)
  (a13 : PySem.W.nsIn K mainGlobals "check_tree" = some (some (.ref f13))) (l13 : K.lookup f13 = some ⟨oc13, od13, .func (PySem.W.fnOf "check_tree" "check_tree" (defArgs s_check_tree) (defBody s_check_tree) (defScope s_check_tree) .none kV13 dc13 pm13 an13 cd13 ct13), sl13⟩) (c13 : PySem.W.codeIn K cd13 "check_tree" = true) (k13 : PySem.W.keepIn K (.ref f13) = true)
  (a14 : PySem.W.nsIn K mainGlobals "kind_of" = some (some (.ref f14))) (l14 : K.lookup f14 = some ⟨oc14, od14, .func (PySem.W.fnOf "kind_of" "kind_of" (defArgs s_kind_of) (defBody s_kind_of) (defScope s_kind_of) .none kV14 dc14 pm14 an14 cd14 ct14), sl14⟩) (c14 : PySem.W.codeIn K cd14 "kind_of" = true) (k14 : PySem.W.keepIn K (.ref f14) = true)
  (a15 : PySem.W.nsIn K mainGlobals "nodes_in" = some (some (.ref f15))) (l15 : K.lookup f15 = some ⟨oc15, od15, .func (PySem.W.fnOf "nodes_in" "nodes_in" (defArgs s_nodes_in) (defBody s_nodes_in) (defScope s_nodes_in) .none kV15 dc15 pm15 an15 cd15 ct15), sl15⟩) (c15 : PySem.W.codeIn K cd15 "nodes_in" = true) (k15 : PySem.W.keepIn K (.ref f15) = true)
  (a16 : PySem.W.nsIn K mainGlobals "is_folder_mark" = some (some (.ref f16))) (l16 : K.lookup f16 = some ⟨oc16, od16, .func (PySem.W.fnOf "is_folder_mark" "is_folder_mark" (defArgs s_is_folder_mark) (defBody s_is_folder_mark) (defScope s_is_folder_mark) .none kV16 dc16 pm16 an16 cd16 ct16), sl16⟩) (c16 : PySem.W.codeIn K cd16 "is_folder_mark" = true) (k16 : PySem.W.keepIn K (.ref f16) = true)
  (a17 : PySem.W.nsIn K mainGlobals "is_gone" = some (some (.ref f17))) (l17 : K.lookup f17 = some ⟨oc17, od17, .func (PySem.W.fnOf "is_gone" "is_gone" (defArgs s_is_gone) (defBody s_is_gone) (defScope s_is_gone) .none kV17 dc17 pm17 an17 cd17 ct17), sl17⟩) (c17 : PySem.W.codeIn K cd17 "is_gone" = true) (k17 : PySem.W.keepIn K (.ref f17) = true)
  (a18 : PySem.W.nsIn K mainGlobals "is_layer" = some (some (.ref f18))) (l18 : K.lookup f18 = some ⟨oc18, od18, .func (PySem.W.fnOf "is_layer" "is_layer" (defArgs s_is_layer) (defBody s_is_layer) (defScope s_is_layer) .none kV18 dc18 pm18 an18 cd18 ct18), sl18⟩) (c18 : PySem.W.codeIn K cd18 "is_layer" = true) (k18 : PySem.W.keepIn K (.ref f18) = true)
  (a19 : PySem.W.nsIn K mainGlobals "check_layer" = some (some (.ref f19))) (l19 : K.lookup f19 = some ⟨oc19, od19, .func (PySem.W.fnOf "check_layer" "check_layer" (defArgs s_check_layer) (defBody s_check_layer) (defScope s_check_layer) .none kV19 dc19 pm19 an19 cd19 ct19), sl19⟩) (c19 : PySem.W.codeIn K cd19 "check_layer" = true) (k19 : PySem.W.keepIn K (.ref f19) = true)
  (a20 : PySem.W.nsIn K mainGlobals "made_folder" = some (some (.ref f20))) (l20 : K.lookup f20 = some ⟨oc20, od20, .func (PySem.W.fnOf "made_folder" "made_folder" (defArgs s_made_folder) (defBody s_made_folder) (defScope s_made_folder) .none kV20 dc20 pm20 an20 (.ref C20) ct20), sl20⟩) (c20 : PySem.W.codeIn K (.ref C20) "made_folder" = true) (k20 : PySem.W.keepIn K (.ref f20) = true)
  (a21 : PySem.W.nsIn K mainGlobals "check_many" = some (some (.ref f21))) (l21 : K.lookup f21 = some ⟨oc21, od21, .func (PySem.W.fnOf "check_many" "check_many" (defArgs s_check_many) (defBody s_check_many) (defScope s_check_many) .none kV21 dc21 pm21 an21 cd21 ct21), sl21⟩) (c21 : PySem.W.codeIn K cd21 "check_many" = true) (k21 : PySem.W.keepIn K (.ref f21) = true)
  (a22 : PySem.W.nsIn K mainGlobals "raw_made" = some (some (.ref f22))) (l22 : K.lookup f22 = some ⟨oc22, od22, .func (PySem.W.fnOf "raw_made" "raw_made" (defArgs s_raw_made) (defBody s_raw_made) (defScope s_raw_made) .none kV22 dc22 pm22 an22 cd22 ct22), sl22⟩) (c22 : PySem.W.codeIn K cd22 "raw_made" = true) (k22 : PySem.W.keepIn K (.ref f22) = true)
  (a23 : PySem.W.nsIn K mainGlobals "made" = some (some (.ref f23))) (l23 : K.lookup f23 = some ⟨oc23, od23, .func (PySem.W.fnOf "made" "made" (defArgs s_made) (defBody s_made) (defScope s_made) .none kV23 dc23 pm23 an23 cd23 ct23), sl23⟩) (c23 : PySem.W.codeIn K cd23 "made" = true) (k23 : PySem.W.keepIn K (.ref f23) = true)
  (a24 : PySem.W.nsIn K mainGlobals "all_marks" = some (some (.ref f24))) (l24 : K.lookup f24 = some ⟨oc24, od24, .func (PySem.W.fnOf "all_marks" "all_marks" (defArgs s_all_marks) (defBody s_all_marks) (defScope s_all_marks) .none kV24 dc24 pm24 an24 cd24 ct24), sl24⟩) (c24 : PySem.W.codeIn K cd24 "all_marks" = true) (k24 : PySem.W.keepIn K (.ref f24) = true)
  (a25 : PySem.W.nsIn K mainGlobals "check_marks" = some (some (.ref f25))) (l25 : K.lookup f25 = some ⟨oc25, od25, .func (PySem.W.fnOf "check_marks" "check_marks" (defArgs s_check_marks) (defBody s_check_marks) (defScope s_check_marks) .none kV25 dc25 pm25 an25 cd25 ct25), sl25⟩) (c25 : PySem.W.codeIn K cd25 "check_marks" = true) (k25 : PySem.W.keepIn K (.ref f25) = true)
  (a26 : PySem.W.nsIn K mainGlobals "joined" = some (some (.ref f26))) (l26 : K.lookup f26 = some ⟨oc26, od26, .func (PySem.W.fnOf "joined" "joined" (defArgs s_joined) (defBody s_joined) (defScope s_joined) .none kV26 dc26 pm26 an26 cd26 ct26), sl26⟩) (c26 : PySem.W.codeIn K cd26 "joined" = true) (k26 : PySem.W.keepIn K (.ref f26) = true)
  (a27 : PySem.W.nsIn K mainGlobals "joined_folder" = some (some (.ref f27))) (l27 : K.lookup f27 = some ⟨oc27, od27, .func (PySem.W.fnOf "joined_folder" "joined_folder" (defArgs s_joined_folder) (defBody s_joined_folder) (defScope s_joined_folder) .none kV27 dc27 pm27 an27 (.ref C27) ct27), sl27⟩) (c27 : PySem.W.codeIn K (.ref C27) "joined_folder" = true) (k27 : PySem.W.keepIn K (.ref f27) = true)
  (a28 : PySem.W.nsIn K mainGlobals "raw_behind" = some (some (.ref f28))) (l28 : K.lookup f28 = some ⟨oc28, od28, .func (PySem.W.fnOf "raw_behind" "raw_behind" (defArgs s_raw_behind) (defBody s_raw_behind) (defScope s_raw_behind) .none kV28 dc28 pm28 an28 cd28 ct28), sl28⟩) (c28 : PySem.W.codeIn K cd28 "raw_behind" = true) (k28 : PySem.W.keepIn K (.ref f28) = true)
  (a29 : PySem.W.nsIn K mainGlobals "one_behind" = some (some (.ref f29))) (l29 : K.lookup f29 = some ⟨oc29, od29, .func (PySem.W.fnOf "one_behind" "one_behind" (defArgs s_one_behind) (defBody s_one_behind) (defScope s_one_behind) .none kV29 dc29 pm29 an29 cd29 ct29), sl29⟩) (c29 : PySem.W.codeIn K cd29 "one_behind" = true) (k29 : PySem.W.keepIn K (.ref f29) = true)
  (a30 : PySem.W.nsIn K mainGlobals "_law_hand" = some (some (.ref f30))) (l30 : K.lookup f30 = some ⟨oc30, od30, .func (PySem.W.fnOf "_law_hand" "_law_hand" (defArgs s__law_hand) (defBody s__law_hand) (defScope s__law_hand) .none kV30 dc30 pm30 an30 cd30 ct30), sl30⟩) (c30 : PySem.W.codeIn K cd30 "_law_hand" = true) (k30 : PySem.W.keepIn K (.ref f30) = true)
  (a31 : PySem.W.nsIn K mainGlobals "_law_draw" = some (some (.ref f31))) (l31 : K.lookup f31 = some ⟨oc31, od31, .func (PySem.W.fnOf "_law_draw" "_law_draw" (defArgs s__law_draw) (defBody s__law_draw) (defScope s__law_draw) .none kV31 dc31 pm31 an31 cd31 ct31), sl31⟩) (c31 : PySem.W.codeIn K cd31 "_law_draw" = true) (k31 : PySem.W.keepIn K (.ref f31) = true)
  (a32 : PySem.W.nsIn K mainGlobals "_law_any" = some (some (.ref f32))) (l32 : K.lookup f32 = some ⟨oc32, od32, .func (PySem.W.fnOf "_law_any" "_law_any" (defArgs s__law_any) (defBody s__law_any) (defScope s__law_any) .none kV32 dc32 pm32 an32 cd32 ct32), sl32⟩) (c32 : PySem.W.codeIn K cd32 "_law_any" = true) (k32 : PySem.W.keepIn K (.ref f32) = true)
  (a33 : PySem.W.nsIn K mainGlobals "_law_is" = some (some (.ref f33))) (l33 : K.lookup f33 = some ⟨oc33, od33, .func (PySem.W.fnOf "_law_is" "_law_is" (defArgs s__law_is) (defBody s__law_is) (defScope s__law_is) .none kV33 dc33 pm33 an33 cd33 ct33), sl33⟩) (c33 : PySem.W.codeIn K cd33 "_law_is" = true) (k33 : PySem.W.keepIn K (.ref f33) = true)
  (a34 : PySem.W.nsIn K mainGlobals "_law_plain_one" = some (some (.ref f34))) (l34 : K.lookup f34 = some ⟨oc34, od34, .func (PySem.W.fnOf "_law_plain_one" "_law_plain_one" (defArgs s__law_plain_one) (defBody s__law_plain_one) (defScope s__law_plain_one) .none kV34 dc34 pm34 an34 cd34 ct34), sl34⟩) (c34 : PySem.W.codeIn K cd34 "_law_plain_one" = true) (k34 : PySem.W.keepIn K (.ref f34) = true)
  (a35 : PySem.W.nsIn K mainGlobals "_law_layer" = some (some (.ref f35))) (l35 : K.lookup f35 = some ⟨oc35, od35, .func (PySem.W.fnOf "_law_layer" "_law_layer" (defArgs s__law_layer) (defBody s__law_layer) (defScope s__law_layer) .none kV35 dc35 pm35 an35 cd35 ct35), sl35⟩) (c35 : PySem.W.codeIn K cd35 "_law_layer" = true) (k35 : PySem.W.keepIn K (.ref f35) = true)
  (a36 : PySem.W.nsIn K mainGlobals "_law_mark" = some (some (.ref f36))) (l36 : K.lookup f36 = some ⟨oc36, od36, .func (PySem.W.fnOf "_law_mark" "_law_mark" (defArgs s__law_mark) (defBody s__law_mark) (defScope s__law_mark) .none kV36 dc36 pm36 an36 cd36 ct36), sl36⟩) (c36 : PySem.W.codeIn K cd36 "_law_mark" = true) (k36 : PySem.W.keepIn K (.ref f36) = true)
  (a37 : PySem.W.nsIn K mainGlobals "_law_tree" = some (some (.ref f37))) (l37 : K.lookup f37 = some ⟨oc37, od37, .func (PySem.W.fnOf "_law_tree" "_law_tree" (defArgs s__law_tree) (defBody s__law_tree) (defScope s__law_tree) .none kV37 dc37 pm37 an37 cd37 ct37), sl37⟩) (c37 : PySem.W.codeIn K cd37 "_law_tree" = true) (k37 : PySem.W.keepIn K (.ref f37) = true)
  (a38 : PySem.W.nsIn K mainGlobals "_law_node" = some (some (.ref f38))) (l38 : K.lookup f38 = some ⟨oc38, od38, .func (PySem.W.fnOf "_law_node" "_law_node" (defArgs s__law_node) (defBody s__law_node) (defScope s__law_node) .none kV38 dc38 pm38 an38 cd38 ct38), sl38⟩) (c38 : PySem.W.codeIn K cd38 "_law_node" = true) (k38 : PySem.W.keepIn K (.ref f38) = true)
  (a39 : PySem.W.nsIn K mainGlobals "_law_by_names" = some (some (.ref f39))) (l39 : K.lookup f39 = some ⟨oc39, od39, .func (PySem.W.fnOf "_law_by_names" "_law_by_names" (defArgs s__law_by_names) (defBody s__law_by_names) (defScope s__law_by_names) .none kV39 dc39 pm39 an39 cd39 ct39), sl39⟩) (c39 : PySem.W.codeIn K cd39 "_law_by_names" = true) (k39 : PySem.W.keepIn K (.ref f39) = true)
  (a40 : PySem.W.nsIn K mainGlobals "_law_made" = some (some (.ref f40))) (l40 : K.lookup f40 = some ⟨oc40, od40, .func (PySem.W.fnOf "_law_made" "_law_made" (defArgs s__law_made) (defBody s__law_made) (defScope s__law_made) .none kV40 dc40 pm40 an40 cd40 ct40), sl40⟩) (c40 : PySem.W.codeIn K cd40 "_law_made" = true) (k40 : PySem.W.keepIn K (.ref f40) = true)
  (a41 : PySem.W.nsIn K mainGlobals "_law_behind" = some (some (.ref f41))) (l41 : K.lookup f41 = some ⟨oc41, od41, .func (PySem.W.fnOf "_law_behind" "_law_behind" (defArgs s__law_behind) (defBody s__law_behind) (defScope s__law_behind) .none kV41 dc41 pm41 an41 cd41 ct41), sl41⟩) (c41 : PySem.W.codeIn K cd41 "_law_behind" = true) (k41 : PySem.W.keepIn K (.ref f41) = true)
  (a42 : PySem.W.nsIn K mainGlobals "_law_trees" = some (some (.ref f42))) (l42 : K.lookup f42 = some ⟨oc42, od42, .func (PySem.W.fnOf "_law_trees" "_law_trees" (defArgs s__law_trees) (defBody s__law_trees) (defScope s__law_trees) .none kV42 dc42 pm42 an42 cd42 ct42), sl42⟩) (c42 : PySem.W.codeIn K cd42 "_law_trees" = true) (k42 : PySem.W.keepIn K (.ref f42) = true)
  (a43 : PySem.W.nsIn K mainGlobals "_law_is_right" = some (some (.ref f43))) (l43 : K.lookup f43 = some ⟨oc43, od43, .func (PySem.W.fnOf "_law_is_right" "_law_is_right" (defArgs s__law_is_right) (defBody s__law_is_right) (defScope s__law_is_right) .none kV43 dc43 pm43 an43 cd43 ct43), sl43⟩) (c43 : PySem.W.codeIn K cd43 "_law_is_right" = true) (k43 : PySem.W.keepIn K (.ref f43) = true)
  (a44 : PySem.W.nsIn K mainGlobals "law" = some (some (.ref f44))) (l44 : K.lookup f44 = some ⟨oc44, od44, .func (PySem.W.fnOf "law" "law" (defArgs s_law) (defBody s_law) (defScope s_law) .none kV44 dc44 pm44 an44 cd44 ct44), sl44⟩) (c44 : PySem.W.codeIn K cd44 "law" = true) (k44 : PySem.W.keepIn K (.ref f44) = true)
  (m20 : K.lookup C20 = some ⟨mc20, md20, .fields mv20, ms20⟩) (p20 : (mv20[11]? : Option Value) = some (.ref P20)) (h20 : PySem.W.codeHdIn K C20 P20 = true) (n20 : K.lookup P20 = none) (t_20 : h.get? P20 = some (PySem.W.tabObj #[]))
  (m27 : K.lookup C27 = some ⟨mc27, md27, .fields mv27, ms27⟩) (p27 : (mv27[11]? : Option Value) = some (.ref P27)) (h27 : PySem.W.codeHdIn K C27 P27 = true) (n27 : K.lookup P27 = none) (t_27 : h.get? P27 = some (PySem.W.tabObj #[]))
  (dst : ([P20, P27] : List Addr).Nodup)
  (q0 : PySem.W.nsIn K mainGlobals "MOST_NODES" = some (some (.int 200 t0)))
  (q1 : PySem.W.nsIn K mainGlobals "MOST_NAMES" = some (some (.int 9 t1)))
  (q2 : PySem.W.nsIn K mainGlobals "MOST_SIGNS" = some (some (.int 8 t2)))
  (q3 : PySem.W.nsIn K mainGlobals "MOST_TEXT" = some (some (.int 40 t3)))
  (q4 : PySem.W.nsIn K mainGlobals "MOST_MODE" = some (some (.int 63 t4)))
  (q5 : PySem.W.nsIn K mainGlobals "FILE" = some (some (.str "file" t5)))
  (q6 : PySem.W.nsIn K mainGlobals "LINK" = some (some (.str "link" t6)))
  (q7 : PySem.W.nsIn K mainGlobals "FOLDER" = some (some (.str "folder" t7)))
  (q8 : PySem.W.nsIn K mainGlobals "NONE" = some (some (.str "none" t8)))
  (q9 : PySem.W.nsIn K mainGlobals "SIGNS" = some (some (.str "abcdefghijklmnopqrstuvwxyz0123456789." t9)))
  (q10 : PySem.W.nsIn K mainGlobals "GONE" = some (some (.str "gone" t10)))
  (z0 : PySem.W.nsIn K mainGlobals "abs" = some none)
  (z1 : PySem.W.nsIn K mainGlobals "all" = some none)
  (z2 : PySem.W.nsIn K mainGlobals "bool" = some none)
  (z3 : PySem.W.nsIn K mainGlobals "dict" = some none)
  (z4 : PySem.W.nsIn K mainGlobals "int" = some none)
  (z5 : PySem.W.nsIn K mainGlobals "isinstance" = some none)
  (z6 : PySem.W.nsIn K mainGlobals "len" = some none)
  (z7 : PySem.W.nsIn K mainGlobals "list" = some none)
  (z8 : PySem.W.nsIn K mainGlobals "range" = some none)
  (z9 : PySem.W.nsIn K mainGlobals "repr" = some none)
  (z10 : PySem.W.nsIn K mainGlobals "sorted" = some none)
  (z11 : PySem.W.nsIn K mainGlobals "str" = some none)
  (z12 : PySem.W.nsIn K mainGlobals "tuple" = some none)
  (z13 : PySem.W.nsIn K mainGlobals "zip" = some none)
  : ∃ (fd : FuncData) (cs : List (Addr × Addr)) (sp : Sp), (∀ p ∈ cs, h.get? p.2 = some tabObj) ∧ (∀ p ∈ cs, K.lookup p.2 = none) ∧ (∀ p ∈ cs, PySem.W.CodeHd h p.1 p.2) ∧ (∀ (s : Shared) (v : Value), BindsTo s fd ⟨[v], []⟩ [("script", v)]) ∧
    (∀ (H : Hp) (a : Addr) (ns : List Int), ns.length ≤ 63 → TOnly (cs.map (·.2)) H → SqL K H a (ns.map V.int) → sp [.ref a] H (fun v _ => v = .bl true) fun _ _ _ => False) ∧
    ∀ base : Heap, K.In base → base.Ns mainGlobals mg → (∀ p ∈ cs, LamX.TabB base mg p.1 p.2) → FnG l.prog w K mg base CX0 18 fa fd ["script"] sp := by
  have e := hfa.symm.trans (PySem.W.mg_of X G a44)
  cases e
  letI : TB := ⟨[(P20, ("made_folder.<locals>." ++ "<lambda>" : Str)), (P27, ("joined_folder.<locals>." ++ "<lambda>" : Str))], l.prog, w⟩
  have F0 := fun_mk (st := s_is_integer) l0 c0 k0
  have b0 := F0.binds (ps := P_is_integer) fun _ _ _ _ _ _ us hl => match us, hl with | [_], _ => rfl
  have F1 := fun_mk (st := s_is_within) l1 c1 k1
  have b1 := F1.binds (ps := P_is_within) fun _ _ _ _ _ _ us hl => match us, hl with | [_, _, _], _ => rfl
  have F2 := fun_mk (st := s_is_flag) l2 c2 k2
  have b2 := F2.binds (ps := P_is_flag) fun _ _ _ _ _ _ us hl => match us, hl with | [_], _ => rfl
  have F3 := fun_mk (st := s_is_sized) l3 c3 k3
  have b3 := F3.binds (ps := P_is_sized) fun _ _ _ _ _ _ us hl => match us, hl with | [_, _, _], _ => rfl
  have F4 := fun_mk (st := s_are_rising) l4 c4 k4
  have b4 := F4.binds (ps := P_are_rising) fun _ _ _ _ _ _ us hl => match us, hl with | [_], _ => rfl
  have F5 := fun_mk (st := s_is_name) l5 c5 k5
  have b5 := F5.binds (ps := P_is_name) fun _ _ _ _ _ _ us hl => match us, hl with | [_], _ => rfl
  have F6 := fun_mk (st := s_is_text) l6 c6 k6
  have b6 := F6.binds (ps := P_is_text) fun _ _ _ _ _ _ us hl => match us, hl with | [_], _ => rfl
  have F7 := fun_mk (st := s_is_mode) l7 c7 k7
  have b7 := F7.binds (ps := P_is_mode) fun _ _ _ _ _ _ us hl => match us, hl with | [_], _ => rfl
  have F8 := fun_mk (st := s_are_named) l8 c8 k8
  have b8 := F8.binds (ps := P_are_named) fun _ _ _ _ _ _ us hl => match us, hl with | [_], _ => rfl
  have F9 := fun_mk (st := s_is_small_node) l9 c9 k9
  have b9 := F9.binds (ps := P_is_small_node) fun _ _ _ _ _ _ us hl => match us, hl with | [_], _ => rfl
  have F10 := fun_mk (st := s_is_folder_node) l10 c10 k10
  have b10 := F10.binds (ps := P_is_folder_node) fun _ _ _ _ _ _ us hl => match us, hl with | [_], _ => rfl
  have F11 := fun_mk (st := s_is_node) l11 c11 k11
  have b11 := F11.binds (ps := P_is_node) fun _ _ _ _ _ _ us hl => match us, hl with | [_], _ => rfl
  have F12 := fun_mk (st := s_is_tree) l12 c12 k12
  have b12 := F12.binds (ps := P_is_tree) fun _ _ _ _ _ _ us hl => match us, hl with | [_], _ => rfl
  have F13 := fun_mk (st := s_check_tree) l13 c13 k13
  have b13 := F13.binds (ps := P_check_tree) fun _ _ _ _ _ _ us hl => match us, hl with | [_], _ => rfl
  have F14 := fun_mk (st := s_kind_of) l14 c14 k14
  have b14 := F14.binds (ps := P_kind_of) fun _ _ _ _ _ _ us hl => match us, hl with | [_], _ => rfl
  have F15 := fun_mk (st := s_nodes_in) l15 c15 k15
  have b15 := F15.binds (ps := P_nodes_in) fun _ _ _ _ _ _ us hl => match us, hl with | [_], _ => rfl
  have F16 := fun_mk (st := s_is_folder_mark) l16 c16 k16
  have b16 := F16.binds (ps := P_is_folder_mark) fun _ _ _ _ _ _ us hl => match us, hl with | [_], _ => rfl
  have F17 := fun_mk (st := s_is_gone) l17 c17 k17
  have b17 := F17.binds (ps := P_is_gone) fun _ _ _ _ _ _ us hl => match us, hl with | [_], _ => rfl
  have F18 := fun_mk (st := s_is_layer) l18 c18 k18
  have b18 := F18.binds (ps := P_is_layer) fun _ _ _ _ _ _ us hl => match us, hl with | [_], _ => rfl
  have F19 := fun_mk (st := s_check_layer) l19 c19 k19
  have b19 := F19.binds (ps := P_check_layer) fun _ _ _ _ _ _ us hl => match us, hl with | [_], _ => rfl
  have F20 : FunC K "made_folder" "made_folder" s_made_folder f20 _ C20 := ⟨⟨_, _, _, _, _, _, _, _, rfl, l20, c20⟩, k20⟩
  have b20 := F20.fun.binds (ps := P_made_folder) fun _ _ _ _ _ _ us hl => match us, hl with | [_, _], _ => rfl
  have F21 := fun_mk (st := s_check_many) l21 c21 k21
  have b21 := F21.binds (ps := P_check_many) fun _ _ _ _ _ _ us hl => match us, hl with | [_], _ => rfl
  have F22 := fun_mk (st := s_raw_made) l22 c22 k22
  have b22 := F22.binds (ps := P_raw_made) fun _ _ _ _ _ _ us hl => match us, hl with | [_, _], _ => rfl
  have F23 := fun_mk (st := s_made) l23 c23 k23
  have b23 := F23.binds (ps := P_made) fun _ _ _ _ _ _ us hl => match us, hl with | [_, _], _ => rfl
  have F24 := fun_mk (st := s_all_marks) l24 c24 k24
  have b24 := F24.binds (ps := P_all_marks) fun _ _ _ _ _ _ us hl => match us, hl with | [_], _ => rfl
  have F25 := fun_mk (st := s_check_marks) l25 c25 k25
  have b25 := F25.binds (ps := P_check_marks) fun _ _ _ _ _ _ us hl => match us, hl with | [_], _ => rfl
  have F26 := fun_mk (st := s_joined) l26 c26 k26
  have b26 := F26.binds (ps := P_joined) fun _ _ _ _ _ _ us hl => match us, hl with | [_, _, _], _ => rfl
  have F27 : FunC K "joined_folder" "joined_folder" s_joined_folder f27 _ C27 := ⟨⟨_, _, _, _, _, _, _, _, rfl, l27, c27⟩, k27⟩
  have b27 := F27.fun.binds (ps := P_joined_folder) fun _ _ _ _ _ _ us hl => match us, hl with | [_, _, _], _ => rfl
  have F28 := fun_mk (st := s_raw_behind) l28 c28 k28
  have b28 := F28.binds (ps := P_raw_behind) fun _ _ _ _ _ _ us hl => match us, hl with | [_, _], _ => rfl
  have F29 := fun_mk (st := s_one_behind) l29 c29 k29
  have b29 := F29.binds (ps := P_one_behind) fun _ _ _ _ _ _ us hl => match us, hl with | [_, _], _ => rfl
  have F30 := fun_mk (st := s__law_hand) l30 c30 k30
  have b30 := F30.binds (ps := P__law_hand) fun _ _ _ _ _ _ us hl => match us, hl with | [_], _ => rfl
  have F31 := fun_mk (st := s__law_draw) l31 c31 k31
  have b31 := F31.binds (ps := P__law_draw) fun _ _ _ _ _ _ us hl => match us, hl with | [_, _], _ => rfl
  have F32 := fun_mk (st := s__law_any) l32 c32 k32
  have b32 := F32.binds (ps := P__law_any) fun _ _ _ _ _ _ us hl => match us, hl with | [_, _], _ => rfl
  have F33 := fun_mk (st := s__law_is) l33 c33 k33
  have b33 := F33.binds (ps := P__law_is) fun _ _ _ _ _ _ us hl => match us, hl with | [_, _], _ => rfl
  have F34 := fun_mk (st := s__law_plain_one) l34 c34 k34
  have b34 := F34.binds (ps := P__law_plain_one) fun _ _ _ _ _ _ us hl => match us, hl with | [_], _ => rfl
  have F35 := fun_mk (st := s__law_layer) l35 c35 k35
  have b35 := F35.binds (ps := P__law_layer) fun _ _ _ _ _ _ us hl => match us, hl with | [_, _, _], _ => rfl
  have F36 := fun_mk (st := s__law_mark) l36 c36 k36
  have b36 := F36.binds (ps := P__law_mark) fun _ _ _ _ _ _ us hl => match us, hl with | [_, _], _ => rfl
  have F37 := fun_mk (st := s__law_tree) l37 c37 k37
  have b37 := F37.binds (ps := P__law_tree) fun _ _ _ _ _ _ us hl => match us, hl with | [_, _], _ => rfl
  have F38 := fun_mk (st := s__law_node) l38 c38 k38
  have b38 := F38.binds (ps := P__law_node) fun _ _ _ _ _ _ us hl => match us, hl with | [_, _], _ => rfl
  have F39 := fun_mk (st := s__law_by_names) l39 c39 k39
  have b39 := F39.binds (ps := P__law_by_names) fun _ _ _ _ _ _ us hl => match us, hl with | [_], _ => rfl
  have F40 := fun_mk (st := s__law_made) l40 c40 k40
  have b40 := F40.binds (ps := P__law_made) fun _ _ _ _ _ _ us hl => match us, hl with | [_, _], _ => rfl
  have F41 := fun_mk (st := s__law_behind) l41 c41 k41
  have b41 := F41.binds (ps := P__law_behind) fun _ _ _ _ _ _ us hl => match us, hl with | [_, _], _ => rfl
  have F42 := fun_mk (st := s__law_trees) l42 c42 k42
  have b42 := F42.binds (ps := P__law_trees) fun _ _ _ _ _ _ us hl => match us, hl with | [_, _], _ => rfl
  have F43 := fun_mk (st := s__law_is_right) l43 c43 k43
  have b43 := F43.binds (ps := P__law_is_right) fun _ _ _ _ _ _ us hl => match us, hl with | [_], _ => rfl
  have F44 := fun_mk (st := s_law) l44 c44 k44
  have b44 := F44.binds (ps := P_law) fun _ _ _ _ _ _ us hl => match us, hl with | [_], _ => rfl
  simp only [List.nodup_cons, List.mem_cons, not_or, List.not_mem_nil, not_false_eq_true, List.nodup_nil, and_true, true_and] at dst
  let T : Txt K mg := {
    f_is_integer := f0, d_is_integer := _, F_is_integer := F0, b_is_integer := b0, g_is_integer := PySem.W.mg_of X G a0,
    f_is_within := f1, d_is_within := _, F_is_within := F1, b_is_within := b1, g_is_within := PySem.W.mg_of X G a1,
    f_is_flag := f2, d_is_flag := _, F_is_flag := F2, b_is_flag := b2, g_is_flag := PySem.W.mg_of X G a2,
    f_is_sized := f3, d_is_sized := _, F_is_sized := F3, b_is_sized := b3, g_is_sized := PySem.W.mg_of X G a3,
    f_are_rising := f4, d_are_rising := _, F_are_rising := F4, b_are_rising := b4, g_are_rising := PySem.W.mg_of X G a4,
    f_is_name := f5, d_is_name := _, F_is_name := F5, b_is_name := b5, g_is_name := PySem.W.mg_of X G a5,
    f_is_text := f6, d_is_text := _, F_is_text := F6, b_is_text := b6, g_is_text := PySem.W.mg_of X G a6,
    f_is_mode := f7, d_is_mode := _, F_is_mode := F7, b_is_mode := b7, g_is_mode := PySem.W.mg_of X G a7,
    f_are_named := f8, d_are_named := _, F_are_named := F8, b_are_named := b8, g_are_named := PySem.W.mg_of X G a8,
    f_is_small_node := f9, d_is_small_node := _, F_is_small_node := F9, b_is_small_node := b9, g_is_small_node := PySem.W.mg_of X G a9,
    f_is_folder_node := f10, d_is_folder_node := _, F_is_folder_node := F10, b_is_folder_node := b10, g_is_folder_node := PySem.W.mg_of X G a10,
    f_is_node := f11, d_is_node := _, F_is_node := F11, b_is_node := b11, g_is_node := PySem.W.mg_of X G a11,
    f_is_tree := f12, d_is_tree := _, F_is_tree := F12, b_is_tree := b12, g_is_tree := PySem.W.mg_of X G a12,
    f_check_tree := f13, d_check_tree := _, F_check_tree := F13, b_check_tree := b13, g_check_tree := PySem.W.mg_of X G a13,
    f_kind_of := f14, d_kind_of := _, F_kind_of := F14, b_kind_of := b14, g_kind_of := PySem.W.mg_of X G a14,
    f_nodes_in := f15, d_nodes_in := _, F_nodes_in := F15, b_nodes_in := b15, g_nodes_in := PySem.W.mg_of X G a15,
    f_is_folder_mark := f16, d_is_folder_mark := _, F_is_folder_mark := F16, b_is_folder_mark := b16, g_is_folder_mark := PySem.W.mg_of X G a16,
    f_is_gone := f17, d_is_gone := _, F_is_gone := F17, b_is_gone := b17, g_is_gone := PySem.W.mg_of X G a17,
    f_is_layer := f18, d_is_layer := _, F_is_layer := F18, b_is_layer := b18, g_is_layer := PySem.W.mg_of X G a18,
    f_check_layer := f19, d_check_layer := _, F_check_layer := F19, b_check_layer := b19, g_check_layer := PySem.W.mg_of X G a19,
    c_made_folder := C20, p_made_folder := P20, tm_made_folder := (show (P20, ("made_folder.<locals>." ++ "<lambda>" : Str)) ∈ [(P20, ("made_folder.<locals>." ++ "<lambda>" : Str)), (P27, ("joined_folder.<locals>." ++ "<lambda>" : Str))] from by simp), tu_made_folder := fun q hq e => by
      have hq : q ∈ [(P20, ("made_folder.<locals>." ++ "<lambda>" : Str)), (P27, ("joined_folder.<locals>." ++ "<lambda>" : Str))] := hq
      simp only [List.mem_cons, List.not_mem_nil, or_false] at hq
      rcases hq with rfl | rfl
      · rfl
      · (exfalso; simp_all)
    f_made_folder := f20, d_made_folder := _, F_made_folder := F20, b_made_folder := b20, g_made_folder := PySem.W.mg_of X G a20,
    f_check_many := f21, d_check_many := _, F_check_many := F21, b_check_many := b21, g_check_many := PySem.W.mg_of X G a21,
    f_raw_made := f22, d_raw_made := _, F_raw_made := F22, b_raw_made := b22, g_raw_made := PySem.W.mg_of X G a22,
    f_made := f23, d_made := _, F_made := F23, b_made := b23, g_made := PySem.W.mg_of X G a23,
    f_all_marks := f24, d_all_marks := _, F_all_marks := F24, b_all_marks := b24, g_all_marks := PySem.W.mg_of X G a24,
    f_check_marks := f25, d_check_marks := _, F_check_marks := F25, b_check_marks := b25, g_check_marks := PySem.W.mg_of X G a25,
    f_joined := f26, d_joined := _, F_joined := F26, b_joined := b26, g_joined := PySem.W.mg_of X G a26,
    c_joined_folder := C27, p_joined_folder := P27, tm_joined_folder := (show (P27, ("joined_folder.<locals>." ++ "<lambda>" : Str)) ∈ [(P20, ("made_folder.<locals>." ++ "<lambda>" : Str)), (P27, ("joined_folder.<locals>." ++ "<lambda>" : Str))] from by simp), tu_joined_folder := fun q hq e => by
      have hq : q ∈ [(P20, ("made_folder.<locals>." ++ "<lambda>" : Str)), (P27, ("joined_folder.<locals>." ++ "<lambda>" : Str))] := hq
      simp only [List.mem_cons, List.not_mem_nil, or_false] at hq
      rcases hq with rfl | rfl
      · (exfalso; simp_all)
      · rfl
    f_joined_folder := f27, d_joined_folder := _, F_joined_folder := F27, b_joined_folder := b27, g_joined_folder := PySem.W.mg_of X G a27,
    f_raw_behind := f28, d_raw_behind := _, F_raw_behind := F28, b_raw_behind := b28, g_raw_behind := PySem.W.mg_of X G a28,
    f_one_behind := f29, d_one_behind := _, F_one_behind := F29, b_one_behind := b29, g_one_behind := PySem.W.mg_of X G a29,
    f__law_hand := f30, d__law_hand := _, F__law_hand := F30, b__law_hand := b30, g__law_hand := PySem.W.mg_of X G a30,
    f__law_draw := f31, d__law_draw := _, F__law_draw := F31, b__law_draw := b31, g__law_draw := PySem.W.mg_of X G a31,
    f__law_any := f32, d__law_any := _, F__law_any := F32, b__law_any := b32, g__law_any := PySem.W.mg_of X G a32,
    f__law_is := f33, d__law_is := _, F__law_is := F33, b__law_is := b33, g__law_is := PySem.W.mg_of X G a33,
    f__law_plain_one := f34, d__law_plain_one := _, F__law_plain_one := F34, b__law_plain_one := b34, g__law_plain_one := PySem.W.mg_of X G a34,
    f__law_layer := f35, d__law_layer := _, F__law_layer := F35, b__law_layer := b35, g__law_layer := PySem.W.mg_of X G a35,
    f__law_mark := f36, d__law_mark := _, F__law_mark := F36, b__law_mark := b36, g__law_mark := PySem.W.mg_of X G a36,
    f__law_tree := f37, d__law_tree := _, F__law_tree := F37, b__law_tree := b37, g__law_tree := PySem.W.mg_of X G a37,
    f__law_node := f38, d__law_node := _, F__law_node := F38, b__law_node := b38, g__law_node := PySem.W.mg_of X G a38,
    f__law_by_names := f39, d__law_by_names := _, F__law_by_names := F39, b__law_by_names := b39, g__law_by_names := PySem.W.mg_of X G a39,
    f__law_made := f40, d__law_made := _, F__law_made := F40, b__law_made := b40, g__law_made := PySem.W.mg_of X G a40,
    f__law_behind := f41, d__law_behind := _, F__law_behind := F41, b__law_behind := b41, g__law_behind := PySem.W.mg_of X G a41,
    f__law_trees := f42, d__law_trees := _, F__law_trees := F42, b__law_trees := b42, g__law_trees := PySem.W.mg_of X G a42,
    f__law_is_right := f43, d__law_is_right := _, F__law_is_right := F43, b__law_is_right := b43, g__law_is_right := PySem.W.mg_of X G a43,
    f_law := fa, d_law := _, F_law := F44, b_law := b44, g_law := PySem.W.mg_of X G a44,
    t_MOST_NODES := t0, c_MOST_NODES := PySem.W.mg_of X G q0,
    t_MOST_NAMES := t1, c_MOST_NAMES := PySem.W.mg_of X G q1,
    t_MOST_SIGNS := t2, c_MOST_SIGNS := PySem.W.mg_of X G q2,
    t_MOST_TEXT := t3, c_MOST_TEXT := PySem.W.mg_of X G q3,
    t_MOST_MODE := t4, c_MOST_MODE := PySem.W.mg_of X G q4,
    t_FILE := t5, c_FILE := PySem.W.mg_of X G q5,
    t_LINK := t6, c_LINK := PySem.W.mg_of X G q6,
    t_FOLDER := t7, c_FOLDER := PySem.W.mg_of X G q7,
    t_NONE := t8, c_NONE := PySem.W.mg_of X G q8,
    t_SIGNS := t9, c_SIGNS := PySem.W.mg_of X G q9,
    t_GONE := t10, c_GONE := PySem.W.mg_of X G q10,
    m_abs := PySem.W.mg_none_of X G z0,
    m_all := PySem.W.mg_none_of X G z1,
    m_bool := PySem.W.mg_none_of X G z2,
    m_dict := PySem.W.mg_none_of X G z3,
    m_int := PySem.W.mg_none_of X G z4,
    m_isinstance := PySem.W.mg_none_of X G z5,
    m_len := PySem.W.mg_none_of X G z6,
    m_list := PySem.W.mg_none_of X G z7,
    m_range := PySem.W.mg_none_of X G z8,
    m_repr := PySem.W.mg_none_of X G z9,
    m_sorted := PySem.W.mg_none_of X G z10,
    m_str := PySem.W.mg_none_of X G z11,
    m_tuple := PySem.W.mg_none_of X G z12,
    m_zip := PySem.W.mg_none_of X G z13 }
  refine ⟨PySem.W.fnOf "law" "law" (defArgs s_law) (defBody s_law) (defScope s_law) .none kV44 dc44 pm44 an44 cd44 ct44, [(C20, P20), (C27, P27)], spLaw K, (List.forall_mem_cons.mpr ⟨t_20, (List.forall_mem_cons.mpr ⟨t_27, (fun _ z => nomatch z)⟩)⟩), (List.forall_mem_cons.mpr ⟨n20, (List.forall_mem_cons.mpr ⟨n27, (fun _ z => nomatch z)⟩)⟩), (List.forall_mem_cons.mpr ⟨PySem.W.codeHd_of_K X h20, (List.forall_mem_cons.mpr ⟨PySem.W.codeHd_of_K X h27, (fun _ z => nomatch z)⟩)⟩), fun s v => .of_eq rfl, fun H a ns hl hO hS => ⟨a, ns, rfl, hS, hl, fun p hp => ?_, fun _ => rfl⟩, fun base _ _ hB => ok_law T ⟨rfl, rfl, hB (C20, P20) (by simp), hB (C27, P27) (by simp)⟩⟩
  have hp : p ∈ [(P20, ("made_folder.<locals>." ++ "<lambda>" : Str)), (P27, ("joined_folder.<locals>." ++ "<lambda>" : Str))] := hp
  have hm : p.1 ∈ ([P20, P27] : List Addr) := by
    simp only [List.mem_cons, List.not_mem_nil, or_false] at hp ⊢
    rcases hp with rfl | rfl <;> simp
  exact ⟨#[], hO.tab _ hm, trivial, fun pos cv z => nomatch z⟩
theorem walk {l : PySem.W.OpenLaw} {q : Program} {loose : List Str} {XP : (Str → Option Value) → Heap → Prop} {YP : World → Heap → Prop} {d : DefRec} {K : Params → PySem.W.Frag} (hn : l.most = some 63) (hdf : d.params.defaults = [])
    (hY : ∀ (w : World) (h : Heap), YP w h → (K w.params).In h)
    (F : ∀ (w : World) (mg : Str → Option Value) (fa : Addr) (h : Heap), YP w h → (K w.params).In h → h.Ns mainGlobals mg → mg d.name = some (.ref fa) →
      ∃ (fd : FuncData) (cs : List (Addr × Addr)) (sp : Sp), (∀ p ∈ cs, h.get? p.2 = some tabObj) ∧ (∀ p ∈ cs, (K w.params).lookup p.2 = none) ∧ (∀ p ∈ cs, PySem.W.CodeHd h p.1 p.2) ∧ (∀ (s : Shared) (u : Value), BindsTo s fd ⟨[u], []⟩ [("script", u)]) ∧
        (∀ (H : Hp) (a : Addr) (ns : List Int), ns.length ≤ 63 → TOnly (cs.map (·.2)) H → SqL (K w.params) H a (ns.map V.int) → sp [.ref a] H (fun v _ => v = .bl true) fun _ _ _ => False) ∧
        ∀ base : Heap, (K w.params).In base → base.Ns mainGlobals mg → (∀ p ∈ cs, LamX.TabB base mg p.1 p.2) → FnG l.prog w (K w.params) mg base CX0 18 fa fd ["script"] sp) :
    PySem.W.WalkO q loose XP YP l.row.toRowW d [] (fun f vs => PySem.call f vs) :=
  PD.walk_t (n := 63) (k := 18) (x := "script") (CX := fun _ => CX0) hn (by decide) hdf (PD.roomG_caller.mono (by decide)) hY F fun _ _ _ _ _ z => z
end Lw
open PySem PySem.W PyProof.Rows
set_option maxRecDepth 100000 in
set_option maxHeartbeats 0 in
theorem PySem.Challenge.cw_layerhouse_k14_whole_one_layer_behind_an_holds : PySem.Challenge.rw_layerhouse_k14_whole_one_layer_behind_an.Holds := by
  w_on; o_law; k_head; (case hw => w_witness2)
  k_fill
  refine Lw.walk (l := PySem.Challenge.rw_layerhouse_k14_whole_one_layer_behind_an) rfl rfl (fun w h Y => PySem.W.km_in_of Y) ?F
  case F =>
    intro w mg fa h Y KX G hmg
    have hT8 := PySem.W.km_tabs_of Y
    refine' Lw.all_mk KX G hmg ?a0 ?l0 ?c0 ?k0 ?a1 ?l1 ?c1 ?k1 ?a2 ?l2 ?c2 ?k2 ?a3 ?l3 ?c3 ?k3 ?a4 ?l4 ?c4 ?k4 ?a5 ?l5 ?c5 ?k5 ?a6 ?l6 ?c6 ?k6 ?a7 ?l7 ?c7 ?k7 ?a8 ?l8 ?c8 ?k8 ?a9 ?l9 ?c9 ?k9 ?a10 ?l10 ?c10 ?k10 ?a11 ?l11 ?c11 ?k11 ?a12 ?l12 ?c12 ?k12 ?a13 ?l13 ?c13 ?k13 ?a14 ?l14 ?c14 ?k14 ?a15 ?l15 ?c15 ?k15 ?a16 ?l16 ?c16 ?k16 ?a17 ?l17 ?c17 ?k17 ?a18 ?l18 ?c18 ?k18 ?a19 ?l19 ?c19 ?k19 ?a20 ?l20 ?c20 ?k20 ?a21 ?l21 ?c21 ?k21 ?a22 ?l22 ?c22 ?k22 ?a23 ?l23 ?c23 ?k23 ?a24 ?l24 ?c24 ?k24 ?a25 ?l25 ?c25 ?k25 ?a26 ?l26 ?c26 ?k26 ?a27 ?l27 ?c27 ?k27 ?a28 ?l28 ?c28 ?k28 ?a29 ?l29 ?c29 ?k29 ?a30 ?l30 ?c30 ?k30 ?a31 ?l31 ?c31 ?k31 ?a32 ?l32 ?c32 ?k32 ?a33 ?l33 ?c33 ?k33 ?a34 ?l34 ?c34 ?k34 ?a35 ?l35 ?c35 ?k35 ?a36 ?l36 ?c36 ?k36 ?a37 ?l37 ?c37 ?k37 ?a38 ?l38 ?c38 ?k38 ?a39 ?l39 ?c39 ?k39 ?a40 ?l40 ?c40 ?k40 ?a41 ?l41 ?c41 ?k41 ?a42 ?l42 ?c42 ?k42 ?a43 ?l43 ?c43 ?k43 ?a44 ?l44 ?c44 ?k44 ?m20 ?p20 ?h20 ?n20 ?t_20 ?m27 ?p27 ?h27 ?n27 ?t_27 ?dst ?q0 ?q1 ?q2 ?q3 ?q4 ?q5 ?q6 ?q7 ?q8 ?q9 ?q10 ?z0 ?z1 ?z2 ?z3 ?z4 ?z5 ?z6 ?z7 ?z8 ?z9 ?z10 ?z11 ?z12 ?z13
    (case a0 => k_is)
    (case l0 => k_is)
    (case c0 => k_is)
    (case k0 => k_is)
    (case a1 => k_is)
    (case l1 => k_is)
    (case c1 => k_is)
    (case k1 => k_is)
    (case a2 => k_is)
    (case l2 => k_is)
    (case c2 => k_is)
    (case k2 => k_is)
    (case a3 => k_is)
    (case l3 => k_is)
    (case c3 => k_is)
    (case k3 => k_is)
    (case a4 => k_is)
    (case l4 => k_is)
    (case c4 => k_is)
    (case k4 => k_is)
    (case a5 => k_is)
    (case l5 => k_is)
    (case c5 => k_is)
    (case k5 => k_is)
    (case a6 => k_is)
    (case l6 => k_is)
    (case c6 => k_is)
    (case k6 => k_is)
    (case a7 => k_is)
    (case l7 => k_is)
    (case c7 => k_is)
    (case k7 => k_is)
    (case a8 => k_is)
    (case l8 => k_is)
    (case c8 => k_is)
    (case k8 => k_is)
    (case a9 => k_is)
    (case l9 => k_is)
    (case c9 => k_is)
    (case k9 => k_is)
    (case a10 => k_is)
    (case l10 => k_is)
    (case c10 => k_is)
    (case k10 => k_is)
    (case a11 => k_is)
    (case l11 => k_is)
    (case c11 => k_is)
    (case k11 => k_is)
    (case a12 => k_is)
    (case l12 => k_is)
    (case c12 => k_is)
    (case k12 => k_is)
    (case a13 => k_is)
    (case l13 => k_is)
    (case c13 => k_is)
    (case k13 => k_is)
    (case a14 => k_is)
    (case l14 => k_is)
    (case c14 => k_is)
    (case k14 => k_is)
    (case a15 => k_is)
    (case l15 => k_is)
    (case c15 => k_is)
    (case k15 => k_is)
    (case a16 => k_is)
    (case l16 => k_is)
    (case c16 => k_is)
    (case k16 => k_is)
    (case a17 => k_is)
    (case l17 => k_is)
    (case c17 => k_is)
    (case k17 => k_is)
    (case a18 => k_is)
    (case l18 => k_is)
    (case c18 => k_is)
    (case k18 => k_is)
    (case a19 => k_is)
    (case l19 => k_is)
    (case c19 => k_is)
    (case k19 => k_is)
    (case a20 => k_is)
    (case l20 => k_is)
    (case c20 => k_is)
    (case k20 => k_is)
    (case a21 => k_is)
    (case l21 => k_is)
    (case c21 => k_is)
    (case k21 => k_is)
    (case a22 => k_is)
    (case l22 => k_is)
    (case c22 => k_is)
    (case k22 => k_is)
    (case a23 => k_is)
    (case l23 => k_is)
    (case c23 => k_is)
    (case k23 => k_is)
    (case a24 => k_is)
    (case l24 => k_is)
    (case c24 => k_is)
    (case k24 => k_is)
    (case a25 => k_is)
    (case l25 => k_is)
    (case c25 => k_is)
    (case k25 => k_is)
    (case a26 => k_is)
    (case l26 => k_is)
    (case c26 => k_is)
    (case k26 => k_is)
    (case a27 => k_is)
    (case l27 => k_is)
    (case c27 => k_is)
    (case k27 => k_is)
    (case a28 => k_is)
    (case l28 => k_is)
    (case c28 => k_is)
    (case k28 => k_is)
    (case a29 => k_is)
    (case l29 => k_is)
    (case c29 => k_is)
    (case k29 => k_is)
    (case a30 => k_is)
    (case l30 => k_is)
    (case c30 => k_is)
    (case k30 => k_is)
    (case a31 => k_is)
    (case l31 => k_is)
    (case c31 => k_is)
    (case k31 => k_is)
    (case a32 => k_is)
    (case l32 => k_is)
    (case c32 => k_is)
    (case k32 => k_is)
    (case a33 => k_is)
    (case l33 => k_is)
    (case c33 => k_is)
    (case k33 => k_is)
    (case a34 => k_is)
    (case l34 => k_is)
    (case c34 => k_is)
    (case k34 => k_is)
    (case a35 => k_is)
    (case l35 => k_is)
    (case c35 => k_is)
    (case k35 => k_is)
    (case a36 => k_is)
    (case l36 => k_is)
    (case c36 => k_is)
    (case k36 => k_is)
    (case a37 => k_is)
    (case l37 => k_is)
    (case c37 => k_is)
    (case k37 => k_is)
    (case a38 => k_is)
    (case l38 => k_is)
    (case c38 => k_is)
    (case k38 => k_is)
    (case a39 => k_is)
    (case l39 => k_is)
    (case c39 => k_is)
    (case k39 => k_is)
    (case a40 => k_is)
    (case l40 => k_is)
    (case c40 => k_is)
    (case k40 => k_is)
    (case a41 => k_is)
    (case l41 => k_is)
    (case c41 => k_is)
    (case k41 => k_is)
    (case a42 => k_is)
    (case l42 => k_is)
    (case c42 => k_is)
    (case k42 => k_is)
    (case a43 => k_is)
    (case l43 => k_is)
    (case c43 => k_is)
    (case k43 => k_is)
    (case a44 => k_is)
    (case l44 => k_is)
    (case c44 => k_is)
    (case k44 => k_is)
    (case m20 => k_is)
    (case p20 => rfl)
    (case h20 => kernel_rfl)
    (case n20 => kernel_rfl)
    (case t_20 => exact hT8 _ (by decide))
    (case m27 => k_is)
    (case p27 => rfl)
    (case h27 => kernel_rfl)
    (case n27 => kernel_rfl)
    (case t_27 => exact hT8 _ (by decide))
    (case dst => decide)
    (case q0 => k_is)
    (case q1 => k_is)
    (case q2 => k_is)
    (case q3 => k_is)
    (case q4 => k_is)
    (case q5 => k_is)
    (case q6 => k_is)
    (case q7 => k_is)
    (case q8 => k_is)
    (case q9 => k_is)
    (case q10 => k_is)
    (case z0 => k_is)
    (case z1 => k_is)
    (case z2 => k_is)
    (case z3 => k_is)
    (case z4 => k_is)
    (case z5 => k_is)
    (case z6 => k_is)
    (case z7 => k_is)
    (case z8 => k_is)
    (case z9 => k_is)
    (case z10 => k_is)
    (case z11 => k_is)
    (case z12 => k_is)
    (case z13 => k_is)
end
