import PyProof.Rows.All
import Wide.All
import OpenK.AllK
import Wide.FinOn
import HandS.ForMost
import HandS.Style
import HandS.TupAny
import PyProof.ReprRoads
import KE.DataEq
import KE.DataCmp
import KE.DataIsa
import KE.DataAny
import KE.SortData
import KE.KDictKeyed
import KE.KDictLaw
import HandS.Defaults
import HandS.IsInst
import HandS.Wide
import HandS.Property
import KE.KCallOwn
import HandS.Comp
import HandS.Flow
import HandS.Steps
import HandS.FStr
import HandS.RaiseMore
import PyProof.ReprLen
import HandS.Dict
import HandS.DictComp
import HandS.ForExc
import HandS.ExcInit
import HandS.ExcField
import HandS.ExcIs
import HandS.TryMany
import HandS.Iter
import KE.KDictSum
import HandS.Deep
import HandS.Star
import PyProof.RowDictHeap
import HandS.TupSets
import HandS.Strs
import PySem.Challenge.RW_ownwake_k21_live_tables
set_option Elab.async false
set_option linter.all false
set_option maxRecDepth 100000
set_option maxHeartbeats 4000000
set_option maxHeartbeats 400000
set_option maxHeartbeats 800000
set_option maxHeartbeats 1600000
set_option maxHeartbeats 3200000
set_option maxHeartbeats 1000000
/-! Defs that are called where no repr is under way (the layer's own promises say nothing of guards). -/
namespace Dl
open PySem PySem.Spec PyProof.Rows L2

/-- as the layer's FnOk, but only for callers without a guard -/
structure FnG (P : Program) (w : World) (K : PySem.W.Frag) (mg : Str → Option Value) (base : Heap) (CX : CXT) (k : Nat) (f : Addr) (fd : FuncData) (ps : List Str) (sp : Sp) : Prop where
  arity : ∀ {vs H Q E}, sp vs H Q E → vs.length = ps.length
  go : ∀ {A : Around} {outer : List Env} {s : Shared} {H : Hp} {args : Args} {us : List Value} {vs : List V} {Q : VK} {E : XK}, A.guards = some [] → Room k A → Env0 P w K mg base A outer s H →
    BindsTo s fd args (ps.zip us) → Vals vs us → sp vs H Q E → codeAny (model P w) A (.call (.ref f) args) (CR CX outer P w H s Q E) s
section
variable {P : Program} {w : World} {K : PySem.W.Frag} {mg : Str → Option Value} {base : Heap} {CX : CXT} {j k : Nat} {f : Addr} {fd : FuncData} {ps : List Str} {sp : Sp}
theorem FnG.up (F : FnG P w K mg base CX j f fd ps sp) (h : j ≤ k) : FnG P w K mg base CX k f fd ps sp := ⟨F.arity, fun g r => F.go g (r.mono h)⟩
theorem kinds_ok {sc : Scope} {N : List Str} (S : FnScope N ps sc) (us : List Value) :
    ((ps.zip us).all fun y => sc.names.lookup y.1 == some .local || sc.names.lookup y.1 == some .cell) = true := by
  rw [List.all_eq_true]
  intro y hy
  have hm : y.1 ∈ ps := (List.of_mem_zip (a := y.1) (b := y.2) hy).1
  rcases S.par y.1 hm with q | q <;> simp [q]
/-- a def of the text by its body, the guard's word carried -/
theorem okG {x qual : Str} {st : Stmt} {N : List Str} (F : Fun K x qual st f fd) (S : FnScope N ps (defScope st)) (ar : ∀ {vs H Q E}, sp vs H Q E → vs.length = ps.length)
    (body : ∀ {cdv : Value} {A : Around} {outer : List Env} {s : Shared} {H : Hp} {vs : List V} {Q : VK} {E : XK}, A.guards = some [] → Room k (A.deeper (envOfC qual (defScope st) s.heap.objs.size f cdv)) → sp vs H Q E →
      ∃ t, PSs (cxOf CX P w K mg base N qual (defScope st) f cdv A outer s H E) (defBody st) t ∧ t { nx := fun _ H' => Q .non H', rt := Q } (start N vs) H) : FnG P w K mg base CX (k + 1) f fd ps sp := by
  obtain ⟨oc, od, kV, doc, pm, an, cdv, ct, osl, rfl, lk, hcd⟩ := F.ex
  refine ⟨ar, @fun A outer s H args us vs Q E hg hr e0 hb hv h => ?_⟩
  have keep : ∀ b o, base.get? b = some o → s.heap.get? b = some o := fun b o q => (e0.bs b o q).1
  obtain ⟨t, ht, hq⟩ := body (cdv := cdv) (outer := outer) (s := s) hg (hr.deeper _) h
  refine Att.call_fn (e0.mod.kin.keeps keep) (e0.mod.nolimit.keeps keep) lk hcd hr.depth hb (kinds_ok S us) (fun s1 ic => ?_) S.co S.gen S.kind
  have I := inv_start (CX := CX) (E := E) S hr.hd e0 (ar h) hv ic
  refine wpAny_mono (ht.run [] s1 _ H _ I hq) (fun fl s2 h2 => ?_) (fun e s2 h2 => h2)
  cases fl with
  | next => obtain ⟨σ2, H2, I2, q2⟩ := h2; exact ⟨V.non, H2, I2.os, I2.bare, I2.base, I2.hok, rfl, q2⟩
  | ret u => obtain ⟨v2, σ2, H2, I2, r2, q2⟩ := h2; exact ⟨v2, H2, I2.os, I2.bare, I2.base, I2.hok, r2, q2⟩
  | brk => obtain ⟨_, _, _, no⟩ := h2; exact no.elim
  | cont => obtain ⟨_, _, _, no⟩ := h2; exact no.elim
end

section
variable {X : Cx} {CX : CXT} {k : Nat} {f C : Addr} {fd : FuncData} {ps ks : List Str} {sp : Sp} {dvs : List V} {ds : List Value} {E : XK} {x m : Str} {p pos apos kpos : Pos} {e o : Expr} {es : List Expr} {ta : TE} {t tk : TA} {kws : List Keyword}
  {g : List Value → List Value → List Value} {gV : List V → List V → List V}
/-- behind a call: what came back, or the error handed on -/
theorem back {pins : List (Addr × Obj)} {σ : L2.St} {H : Hp} {s : Shared} {Q : VK} {args : Args} (hx : Passes CX X E) (I : Inv X pins σ H s)
    (h : codeAny (model X.prog X.w) X.A (.call (.ref f) args) (CR CX X.stack X.prog X.w H s Q E) s) : wpAny (model X.prog X.w) X.A (call (.ref f) args.pos args.kw) (EP X pins σ Q) X.xe s := by
  refine wpAny_call (codeAny_mono h fun r s' hq => ?_)
  match r, hq with
  | .error e, hq => exact hx pins σ H s e s' I hq
  | .ok (.ret u), hq => exact I.after hq
/-- f(e, ..) -/
theorem pe_callG (F : FnG X.prog X.w X.K X.mg X.base CX k f fd ps sp) (hr : Room k X.A) (hgu : X.A.guards = some []) (hg : Gl X x) (hm : X.mg x = some (.ref f)) (hk : PySem.W.keepIn X.K (.ref f) = true) (hb : Binds X.K fd ps ds) (hd : Vals dvs ds) (hx : Passes CX X E)
    (ha : PA X (e :: es) t) (hdb : (x == ("__debug__" : Str)) = false := by decide) (he : starEach (e :: es) X.env = (false, eval e X.env) :: starEach es X.env := by rfl) (hpl : (backTo pos (starEach es X.env)).any (·.1) = false := by rfl) :
    PE X (.Call (.Name x p) (e :: es) [] pos) (tCall sp dvs E t) := ⟨fun pins s σ H Q I h => by
  refine wpAny_Call_Name_kw (ld_glob I hg hm (PySem.W.callWith_K (h₀ := X.base) I.ok.mod.kin hk (thn (ha.run pos pins s σ H _ I h) ?_) he hpl) hdb)
  rintro us s1 ⟨vs, H1, I1, r, q⟩
  have z : Vals (vs ++ dvs) (us ++ ds) := r.append hd
  exact ⟨I1.kIn, back (args := ⟨us, []⟩) hx I1 (F.go hgu hr I1.env0 (hb s1 us I1.kIn (z.length.symm.trans (F.arity q))) z q)⟩⟩
/-- f(k = v, ..): keywords alone -/
def tCallK0 (sp : Sp) (gV : List V → List V → List V) (E : XK) (tk : TA) : TE := fun σ H Q => tk σ H fun zs H2 => sp (gV [] zs) H2 Q E
theorem pe_callKG0 (F : FnG X.prog X.w X.K X.mg X.base CX k f fd ps sp) (hr : Room k X.A) (hgu : X.A.guards = some []) (hg : Gl X x) (hm : X.mg x = some (.ref f)) (hk : PySem.W.keepIn X.K (.ref f) = true) (hb : KBinds X.K fd ps ks g gV) (hx : Passes CX X E)
    (hkw : PK X kws tk) (hall : (backToKw pos (keywordEach kws X.env)).all (·.1.isSome) = true := by rfl) (hks : (backToKw pos (keywordEach kws X.env)).filterMap (·.1) = ks := by rfl)
    (hdb : (x == ("__debug__" : Str)) = false := by decide)
    (hpl : ((backTo pos (starEach [] X.env)).any (·.1) || (backToKw pos (keywordEach kws X.env)).any (·.1.isNone)) = false := by rfl) :
    PE X (.Call (.Name x p) [] kws pos) (tCallK0 sp gV E tk) := ⟨fun pins s σ H Q I h => by
  refine wpAny_Call_Name_kw (ld_glob I hg hm (PySem.W.callWith_KW0 (h₀ := X.base) I.ok.mod.kin hk hall (thn (hkw.run pos pins s σ H _ I h) ?_) hpl) hdb)
  rintro ws s2 ⟨zs, H2, I2, rz, q⟩
  have z := hb.rel (vs := []) (us := []) .nil rz
  rw [hks]
  exact ⟨I2.kIn, back (args := ⟨[], ks.zip ws⟩) hx I2 (F.go hgu hr I2.env0 (hb.to s2 [] ws I2.kIn (z.length.symm.trans (F.arity q))) z q)⟩⟩
end

/-! ### the law's end -/
/-- what is tracked when the law is entered: the script, unless it is one of the module's objects -/
def H0 (K : PySem.W.Frag) (a : Addr) (o : Obj) (xs : List V) : Hp := fun b => if b = a ∧ K.lookup a = none then some (.frz o (.lst xs)) else none
theorem H0_at {K : PySem.W.Frag} {a b : Addr} {o : Obj} {xs : List V} {u : HO} (h : H0 K a o xs b = some u) : b = a ∧ K.lookup a = none ∧ u = .frz o (.lst xs) := by
  unfold H0 at h
  by_cases c : b = a ∧ K.lookup a = none
  · rw [if_pos c] at h
    exact ⟨c.1, c.2, (Option.some.inj h).symm⟩
  · rw [if_neg c] at h
    cases h
theorem law_endG {P : Program} {w : World} {K : PySem.W.Frag} {mg mb : Str → Option Value} {CX : CXT} {k : Nat} {fa a : Addr} {fd : FuncData} {x : Str} {sp : Sp} {s : Shared} {vs : List Value} {ns : List Int}
    (KX : K.In s.heap) (hns : s.heap.Ns mainGlobals mg) (hb : s.heap.Ns builtinsNs mb) (hbb : ∀ x : Str, x ≠ "__name__" → mb x = bootBuiltins x) (hlim : s.heap.NoLimit) (hg : s.gens = #[])
    (ha : s.heap.get? a = some { cls := .type "list", data := .seq vs.toArray }) (hi : IntsAre vs ns) (hl : ns.length ≤ sizeLine) (hr : Room k callerA)
    (F : ∀ base : Heap, K.In base → base.Ns mainGlobals mg → FnG P w K mg base CX k fa fd [x] sp) (hbind : ∀ (s : Shared) (u : Value), BindsTo s fd ⟨[u], []⟩ [(x, u)])
    (hsp : ∀ H : Hp, SqL K H a (ns.map V.int) → sp [.ref a] H (fun v _ => v = .bl true) fun _ _ _ => False)
    (hCX : ∀ H e s', CX [] H s (fun _ _ _ => False) e s' → False) :
    codeAny (model P w) callerA (.call (.ref fa) ⟨[.ref a], []⟩) (fun r s' => r = .ok (.ret (.bool true)) ∧ OldK s.heap s'.heap ∧ s'.os = s.os ∧ AllBare s'.gens) s := by
  have rv := vals_ints hi
  let H := H0 K a { cls := .type "list", data := .seq vs.toArray } (ns.map V.int)
  have free : ∀ {b : Addr} {o : Obj}, s.heap.get? b = some o → (∀ xs n, o.data ≠ .seq xs n) → H b = none := fun {b o} e d => by
    cases q : H b with
    | none => rfl
    | some u =>
      obtain ⟨eb, _, _⟩ := H0_at q
      rw [eb, ha] at e
      cases e
      exact absurd rfl (d _ _)
  have nsOf : ∀ {b : Addr} {m : Str → Option Value}, s.heap.Ns b m → (hidT s.heap H).Ns b m := fun ⟨o, es, ep, e, d, r⟩ =>
    ⟨o, es, ep, hidT_get e (free e fun xs n z => by rw [d] at z; cases z), d, r⟩
  have kin : K.In (hidT s.heap H) := fun b o e => hidT_get (KX b o e) (by
    cases q : H b with
    | none => rfl
    | some u =>
      obtain ⟨eb, nk, _⟩ := H0_at q
      rw [eb, nk] at e
      cases e)
  have hok : HOk P w H s.heap := fun b u q => by
    obtain ⟨eb, _, eu⟩ := H0_at q
    rw [eb, eu]
    exact ⟨ha, by rw [List.length_map]; exact hl, vs, _, rv, ha⟩
  have sq : SqL K H a (ns.map V.int) := by
    cases hk : K.lookup a with
    | none => exact .inl (.inr ⟨_, if_pos ⟨rfl, hk⟩⟩)
    | some o =>
      have e := KX a o hk
      rw [ha] at e
      cases e
      exact .inr ⟨_, vs.toArray, _, hk, rfl, rfl, rfl, by rw [List.size_toArray, hi.length]; exact hl, by simpa using rv⟩
  have lim : (hidT s.heap H).NoLimit := by
    obtain ⟨mc, h1, h2⟩ := hlim
    exact ⟨mc, nsOf h1, h2⟩
  have e0 : Env0 P w K mg (hidT s.heap H) callerA [] s H :=
    ⟨rfl, ⟨kin, nsOf hns, ⟨mb, nsOf hb, hbb⟩, lim⟩, fun b o e => of_hidT e, Nat.le_of_eq (hidT_size _ _), trivial, (fun b z => nomatch z), hok, .of_eq hg⟩
  refine codeAny_mono ((F _ kin (nsOf hns)).go rfl hr e0 (us := [.ref a]) (vs := [.ref a]) (hbind s (.ref a)) (.cons rfl .nil) (hsp H sq)) fun r s' h => ?_
  match r, h with
  | .error e, h => exact (hCX H e s' h).elim
  | .ok (.ret u), h =>
    obtain ⟨v, H', os, bare, un, hok', r', q⟩ := h
    have ev : v = .bl true := q
    subst ev
    have eu : u = Value.bool true := r'
    subst eu
    refine ⟨rfl, OldK.of_keep fun b o e => ?_, os, bare⟩
    cases q : H b with
    | none => exact un.keep b o e q (fun z => nomatch z) (fun z => nomatch z)
    | some y =>
      obtain ⟨_, _, ey⟩ := H0_at q
      rw [ey] at q
      have k1 := (hok b _ q).1
      have k2 := (hok' b _ (un.frzs b _ _ q)).1
      rw [e] at k1
      rw [k2, ← k1]
theorem walkG {l : PySem.W.OpenLaw} {n k : Nat} {q : Program} {loose : List Str} {XP : (Str → Option Value) → Heap → Prop} {YP : World → Heap → Prop} {d : DefRec} {K : Params → PySem.W.Frag} {CX : World → CXT} {sp : World → Sp} {x : Str}
    (hn : l.most = some n) (hn2 : n ≤ sizeLine) (hdf : d.params.defaults = []) (hr : Room k callerA) (hY : ∀ (w : World) (h : Heap), YP w h → (K w.params).In h)
    (F : ∀ (w : World) (mg : Str → Option Value) (fa : Addr) (h : Heap), (K w.params).In h → h.Ns mainGlobals mg → mg d.name = some (.ref fa) → ∃ fd : FuncData, (∀ (s : Shared) (u : Value), BindsTo s fd ⟨[u], []⟩ [(x, u)]) ∧
        ∀ base : Heap, (K w.params).In base → base.Ns mainGlobals mg → FnG l.prog w (K w.params) mg base (CX w) k fa fd [x] (sp w))
    (hsp : ∀ (w : World) (H : Hp) (a : Addr) (ns : List Int), ns.length ≤ n → SqL (K w.params) H a (ns.map V.int) → sp w [.ref a] H (fun v _ => v = .bl true) fun _ _ _ => False)
    (hCX : ∀ (w : World) (H : Hp) (s : Shared) (e : Value) (s' : Shared), CX w [] H s (fun _ _ _ => False) e s' → False) : PySem.W.WalkO q loose XP YP l.row.toRowW d [] (fun f vs => PySem.call f vs) :=
  Att.attach_call hn hdf fun w s0 s1 mg mb fa o pm cd doc a vs ns G Y ho hd hcd hmg hobj hints hlen hg =>
    let ⟨_, hb, hF⟩ := F w mg fa _ (hY w _ Y) G.T.g hmg
    law_endG (hY w _ Y) G.T.g G.T.b G.T.builtins G.T.nolimit hg hobj hints (Nat.le_trans hlen hn2) hr hF hb (fun H hS => hsp w H a ns hlen hS) fun H e s' => hCX w H s1 e s'

/-! ### tuples whose object is known -/
/-- an object without a dict, without slots -/
def plainT (o : Obj) : Prop := o.dict = none ∧ o.slots = #[]
section
variable {X : Cx} {pins : List (Addr × Obj)} {σ : L2.St} {H : Hp} {s : Shared} {h' : Heap}
theorem laidT {a : Addr} {xs : List V} {its : List Value} {n : Nat} {t' : Nat} (I : Inv X pins σ H s) (k : ∀ b u, s.heap.get? b = some u → h'.get? b = some u) (hp : s.heap.objs.size ≤ a) (z : xs.length ≤ sizeLine) (r : Vals xs its)
    (e : h'.get? a = some { cls := .type "tuple", data := .seq its.toArray n }) : Inv X pins σ (upd H a (.frz { cls := .type "tuple", data := .seq its.toArray n } (.tup xs))) { s with heap := h', toks := t' } :=
  I.laid k hp (by exact ⟨e, z, its, r, ⟨_, e, rfl, n, rfl⟩⟩)
/-- (e, ..) -/
def tTupF (t : TA) : TE := fun σ H Q => t σ H fun xs H1 => xs.length ≤ sizeLine ∧ ∀ p o, H1 p = none → plainT o → Q (.ref p) (upd H1 p (.frz o (.tup xs)))
theorem pe_tupF {es : List Expr} {t : TA} {x1} {pos : Pos} (h : PA X es t) : PE X (.Tuple es x1 pos) (tTupF t) := by
  refine ⟨fun pins s σ H Q I hq => ?_⟩
  refine wpAny_Tuple_spliced (thn (h.run pos pins s σ H _ I hq) fun us s1 hx => ?_)
  obtain ⟨xs, H1, I1, r, z, q⟩ := hx
  exact ⟨by rw [← r.length]; exact z, .ref s1.heap.objs.size, _, laidT (t' := s1.toks) I1 (fun b u e => Heap.get?_push_of_some _ e) (Nat.le_refl _) z r (Heap.get?_push_size _ rfl), rfl, q _ _ (I1.hok.fresh (Nat.le_refl _)) ⟨rfl, rfl⟩⟩
/-- t + u -/
def rCatF (K : PySem.W.Frag) : R2 := fun x y H Q => ∃ a b xs ys, x = .ref a ∧ y = .ref b ∧ SqT K H a xs ∧ SqT K H b ys ∧ xs.length + ys.length ≤ sizeLine ∧
  (xs = [] → Q (.ref b) H) ∧ (ys = [] → Q (.ref a) H) ∧ ∀ p o, H p = none → plainT o → Q (.ref p) (upd H p (.frz o (.tup (xs ++ ys))))
theorem op_catF : OpR X (binaryOp .Add) (rCatF X.K) := by
  rintro pins s σ H x y v u Q I rx ry ⟨a, b, xs, ys, rfl, rfl, ha, hb, hz, q0, q1, q2⟩
  obtain rfl : v = Value.ref a := rx
  obtain rfl : u = Value.ref b := ry
  obtain ⟨its, r1, p1, _⟩ := I.tuple ha
  obtain ⟨its2, r2, p2, _⟩ := I.tuple hb
  by_cases hx : xs = []
  · subst hx
    cases r1
    exact cat_tup0 p1 p2 ⟨.ref b, H, I, rfl, q0 rfl⟩
  · refine HT.cat_tup p1 p2 (fun z => hx (r1.nil_iff.mp z)) (fun z => ⟨.ref a, H, I, rfl, q1 (r2.nil_iff.mp z)⟩) (fun z => ?_) (by rw [← r1.length, ← r2.length]; exact hz)
    exact ⟨.ref s.heap.objs.size, _, laidT (t' := s.toks) I (fun b ob q => Heap.get?_push_of_some _ q) (Nat.le_refl _) (by rw [List.length_append]; exact hz) (r1.append r2) (Heap.get?_push_size _ rfl), rfl, q2 _ _ (I.hok.fresh (Nat.le_refl _)) ⟨rfl, rfl⟩⟩
/-- t[lo:hi] -/
def rSlF (K : PySem.W.Frag) : V → Option Int → Option Int → Hp → VK → Prop := fun x lo hi H Q => ∃ a xs, x = .ref a ∧ SqT K H a xs ∧
  (HT.sIx xs.length 0 lo = 0 ∧ HT.sIx xs.length xs.length hi = xs.length → Q (.ref a) H) ∧ ∀ p o, H p = none → plainT o → Q (.ref p) (upd H p (.frz o (.tup (cutV xs lo hi))))
theorem sl_tupF : SlR X (rSlF X.K) := by
  rintro pins s σ H x v vl vu lo hi sl Q I rx hs pl pu ⟨a, xs, rfl, hx, q1, q2⟩
  obtain rfl : v = Value.ref a := rx
  obtain ⟨its, r, ht, hz⟩ := I.tuple hx
  have hlen : its.toArray.size = xs.length := by rw [List.size_toArray]; exact r.length.symm
  refine ⟨"tuple", _, PyProof.Rows.slot_tuple_getitem.lookup, ht.typeIs, ?_⟩
  by_cases hw : HT.sIx xs.length 0 lo = 0 ∧ HT.sIx xs.length xs.length hi = xs.length
  · exact getItem_tuple_whole ht hs pl pu (by rw [hlen]; exact hw) ⟨.ref a, H, I, rfl, q1 hw⟩
  · refine HT.getItem_tuple_cut ht hs pl pu (by rw [hlen]; exact hw) ?_ (by rw [hlen]; exact hz)
    rw [hlen]
    exact ⟨.ref s.heap.objs.size, _, laidT (t' := s.toks) I (fun b ob q => Heap.get?_push_of_some _ q) (Nat.le_refl _) (Nat.le_trans (cutV_length xs lo hi) hz) ((r.drop (HT.sIx xs.length 0 lo)).take (HT.sIx xs.length xs.length hi - HT.sIx xs.length 0 lo)) (Heap.get?_push_size _ rfl), rfl, q2 _ _ (I.hok.fresh (Nat.le_refl _)) ⟨rfl, rfl⟩⟩
/-- tuple(x) -/
theorem call_tupleF : CallR X (.type "tuple") (fun xs H Q => ∃ p ys, xs = [.ref p] ∧ ((SqL X.K H p ys ∧ ∀ l o, H l = none → plainT o → Q (.ref l) (upd H l (.frz o (.tup ys)))) ∨ (SqT X.K H p ys ∧ Q (.ref p) H))) := by
  rintro pins s σ H xs us Q I r ⟨p, ys, rfl, h⟩
  obtain ⟨u, rfl, rx⟩ := vals1 r
  obtain rfl : u = Value.ref p := rx
  rcases h with ⟨hq, q⟩ | ⟨hq, q⟩
  · obtain ⟨its, r', pl, hz⟩ := I.list hq
    refine call_tuple_list pl.isList (fun h' kp => ?_) (by rw [List.size_toArray, ← r'.length]; exact hz)
    have I1 : Inv X pins σ H { s with heap := h' } := I.kept (t' := s.toks) kp
    have I2 : Inv X pins σ (upd H h'.objs.size (.frz { cls := .type "tuple", data := .seq its.toArray } (.tup ys))) { s with heap := h'.push { cls := .type "tuple", data := .seq its.toArray } } :=
      laidT (s := { s with heap := h' }) (t' := s.toks) I1 (fun b o e => Heap.get?_push_of_some _ e) (Nat.le_refl _) hz r' (Heap.get?_push_size _ rfl)
    exact ⟨.ref h'.objs.size, _, I2, rfl, q _ _ (I1.hok.fresh (Nat.le_refl _)) ⟨rfl, rfl⟩⟩
  · obtain ⟨its, r', pl, hz⟩ := I.tuple hq
    exact call_tuple_same pl ⟨.ref p, H, I, rfl, q⟩
end
end Dl

/-! Data: what a def goes on with, without the heap. Immutable things are values (D); what is changed stands at an address, in a store (Mu). -/
namespace Dl
open PySem PySem.Spec PyProof.Rows L2

inductive D where
  | non | bl (b : Bool) | int (i : Int) | str (x : Str) | ty (n : String) | ref (a : Addr)
  | lst (xs : List D) | sq (xs : List D) | tup (xs : List D) | obj (C : Addr) (fs : List (Str × D))
  | dK (kvs : List (Key × D)) | dN (w : World) (kvs : List (NestedKey × D)) | set (w : World) (xs : List NestedKey)
/-- what stands at an address that may change -/
inductive Ob where
  | lst (xs : List D) | dK (kvs : List (Key × D)) | ins (C : Addr) (fs : List (Str × D)) | hid | xd (fs : List (Str × D)) | dN (w : World) (kvs : List (NestedKey × D)) | dL (od : Obj) (w : World) (kvs : List (NestedKey × D))
abbrev Mu := Addr → Option Ob
def mup (μ : Mu) (a : Addr) (o : Ob) : Mu := fun b => if b = a then some o else μ b
theorem mup_same {μ : Mu} {a : Addr} {o : Ob} : mup μ a o a = some o := if_pos rfl
theorem mup_ne {μ : Mu} {a b : Addr} {o : Ob} (h : b ≠ a) : mup μ a o b = μ b := if_neg h

/-- a tuple of the module's written part -/
def KT (K : PySem.W.Frag) (a : Addr) (vs : List V) : Prop :=
  ∃ (o : Obj) (its : Array Value) (n : Nat), K.lookup a = some o ∧ o.cls = .type "tuple" ∧ plainT o ∧ o.data = .seq its n ∧ its.size ≤ sizeLine ∧ Vals vs its.toList
/-- a tuple whose object is known -/
def PTu (H : Hp) (a : Addr) (vs : List V) : Prop := ∃ o, H a = some (.frz o (.tup vs)) ∧ plainT o
def KL (K : PySem.W.Frag) (a : Addr) (vs : List V) : Prop :=
  ∃ (o : Obj) (its : Array Value) (n : Nat), K.lookup a = some o ∧ o.cls = .type "list" ∧ o.dict = none ∧ o.data = .seq its n ∧ its.size ≤ sizeLine ∧ Vals vs its.toList

mutual
/-- a key as data -/
def dn : NestedKey → D
  | .none => .non
  | .num i => .int i
  | .text x => .str x
  | .tup ks => .tup (dns ks)
def dns : List NestedKey → List D
  | [] => []
  | k :: ks => dn k :: dns ks
end
theorem dns_eq : ∀ ks : List NestedKey, dns ks = ks.map dn
  | [] => by simp only [dns, List.map]
  | k :: ks => by simp only [dns, List.map, dns_eq ks]
theorem dn_tup {ks : List NestedKey} : dn (.tup ks) = .tup (ks.map dn) := by rw [dn, dns_eq]
/-- the dict at a, as it stands: keys, where they stand, values -/
def RawN (w : World) (a : Addr) (ep : Nat) (xs : List (NestedKey × Addr × Value)) : Heap → Prop := fun h => ∃ o es, h.get? a = some o ∧ o.ExactDict ∧ o.data = .dict es ep ∧ es.toList = xs.map (fun x => (⟨x.1.hash w, .ref x.2.1, x.2.2⟩ : DictEntry)) ∧ (xs.map (·.1)).Nodup ∧ (a == sysModules) = false ∧ xs.length ≤ sizeLine
/-- .. in the abstract heap; the count of its changes is some fixed one -/
def RawAt (H : Hp) (w : World) (a : Addr) (xs : List (NestedKey × Addr × Value)) : Prop := ∃ ep, H a = some (.ext (RawN w a ep xs))
theorem RawAt.to {H H' : Hp} {w : World} {a : Addr} {xs : List (NestedKey × Addr × Value)} (h : RawAt H w a xs) (k : ∀ o, H a = some o → H' a = some o) : RawAt H' w a xs := let ⟨ep, e⟩ := h; ⟨ep, k _ e⟩
theorem RawAt.ne {H : Hp} {w : World} {a : Addr} {xs : List (NestedKey × Addr × Value)} (h : RawAt H w a xs) : H a ≠ none := let ⟨_, e⟩ := h; by rw [e]; simp
mutual
/-- the value v is the datum d -/
inductive Da (K : PySem.W.Frag) (μ : Mu) (H : Hp) : V → D → Prop
  | non : Da K μ H .non .non
  | bl (b : Bool) : Da K μ H (.bl b) (.bl b)
  | int (i : Int) : Da K μ H (.int i) (.int i)
  | str (x : Str) : Da K μ H (.str x) (.str x)
  | ty (n : String) : Da K μ H (.ty n) (.ty n)
  | ref (a : Addr) : Da K μ H (.ref a) (.ref a)
  | lst {a : Addr} {vs : List V} {ds : List D} : μ a = none → H a = some (.lst vs) → DaL K μ H vs ds → Da K μ H (.ref a) (.lst ds)
  | sq {a : Addr} {vs : List V} {ds : List D} : (μ a = none ∧ Rd H a (.lst vs)) ∨ KL K a vs → DaL K μ H vs ds → Da K μ H (.ref a) (.sq ds)
  | tup {a : Addr} {vs : List V} {ds : List D} : (μ a = none ∧ PTu H a vs) ∨ KT K a vs → DaL K μ H vs ds → Da K μ H (.ref a) (.tup ds)
  | obj {a C dx : Addr} {fv : List (Str × V)} {fs : List (Str × D)} : μ a = none → H a = some (.ins C dx fv) → DaF K μ H fv fs → Da K μ H (.ref a) (.obj C fs)
  | dK {a : Addr} {vs : List (Key × V)} {kvs : List (Key × D)} : μ a = none → H a = some (.dK vs) → DaK K μ H vs kvs → Da K μ H (.ref a) (.dK kvs)
  | dN {a : Addr} {w : World} {xs : List (NestedKey × Addr × Value)} {kvs : List (NestedKey × D)} : μ a = none → RawAt H w a xs → DaN K μ H xs kvs → Da K μ H (.ref a) (.dN w kvs)
inductive DaL (K : PySem.W.Frag) (μ : Mu) (H : Hp) : List V → List D → Prop
  | nil : DaL K μ H [] []
  | cons {v : V} {d : D} {vs : List V} {ds : List D} : Da K μ H v d → DaL K μ H vs ds → DaL K μ H (v :: vs) (d :: ds)
inductive DaF (K : PySem.W.Frag) (μ : Mu) (H : Hp) : List (Str × V) → List (Str × D) → Prop
  | nil : DaF K μ H [] []
  | cons {n : Str} {v : V} {d : D} {vs : List (Str × V)} {ds : List (Str × D)} : Da K μ H v d → DaF K μ H vs ds → DaF K μ H ((n, v) :: vs) ((n, d) :: ds)
inductive DaN (K : PySem.W.Frag) (μ : Mu) (H : Hp) : List (NestedKey × Addr × Value) → List (NestedKey × D) → Prop
  | nil : DaN K μ H [] []
  | cons {k : NestedKey} {b : Addr} {u : Value} {v : V} {d : D} {xs : List (NestedKey × Addr × Value)} {ds : List (NestedKey × D)} : Da K μ H (.ref b) (dn k) → k.depth ≤ 8 → RelV v u → Da K μ H v d → DaN K μ H xs ds → DaN K μ H ((k, b, u) :: xs) ((k, d) :: ds)
inductive DaK (K : PySem.W.Frag) (μ : Mu) (H : Hp) : List (Key × V) → List (Key × D) → Prop
  | nil : DaK K μ H [] []
  | cons {n : Key} {v : V} {d : D} {vs : List (Key × V)} {ds : List (Key × D)} : Da K μ H v d → DaK K μ H vs ds → DaK K μ H ((n, v) :: vs) ((n, d) :: ds)
end

def ObOk (K : PySem.W.Frag) (μ : Mu) (H : Hp) (a : Addr) : Ob → Prop
  | .lst xs => ∃ vs, H a = some (.lst vs) ∧ DaL K μ H vs xs
  | .dK kvs => ∃ vs, H a = some (.dK vs) ∧ DaK K μ H vs kvs
  | .ins C fs => ∃ dx fv, H a = some (.ins C dx fv) ∧ DaF K μ H fv fs
  | .hid => H a ≠ none
  | .xd fs => ∃ fv, H a = some (.xd fv) ∧ DaF K μ H fv fs
  | .dN w kvs => ∃ xs, RawAt H w a xs ∧ DaN K μ H xs kvs
  | .dL od w kvs => ∃ xs es ep, H a = some (.frz od (.ext (RawN w a ep xs))) ∧ (od.data = .dict es ep ∧ es.toList = xs.map (fun x => (⟨x.1.hash w, .ref x.2.1, x.2.2⟩ : DictEntry))) ∧ DaN K μ H xs kvs
/-- the store is held -/
def J (K : PySem.W.Frag) (μ : Mu) (H : Hp) : Prop := ∀ a o, μ a = some o → ObOk K μ H a o
theorem ObOk.some {K : PySem.W.Frag} {μ : Mu} {H : Hp} {a : Addr} : ∀ {o : Ob}, ObOk K μ H a o → H a ≠ none
  | .lst _, ⟨_, e, _⟩ => by rw [e]; simp
  | .dK _, ⟨_, e, _⟩ => by rw [e]; simp
  | .ins _ _, ⟨_, _, e, _⟩ => by rw [e]; simp
  | .hid, e => e
  | .xd _, ⟨_, e, _⟩ => by rw [e]; simp
  | .dN _ _, ⟨_, e, _⟩ => e.ne
  | .dL _ _ _, ⟨_, _, _, e, _⟩ => by rw [e]; simp
theorem J.free {K : PySem.W.Frag} {μ : Mu} {H : Hp} {a : Addr} (j : J K μ H) (h : H a = none) : μ a = none := by
  cases q : μ a with
  | none => rfl
  | some o => exact absurd h (j a o q).some

/-- what may happen: what is not in the store stays, the store only grows, by new addresses -/
structure Gr (μ : Mu) (H : Hp) (μ' : Mu) (H' : Hp) : Prop where
  keep : ∀ b o, μ b = none → H b = some o → H' b = some o
  new : ∀ b, μ b = none → μ' b ≠ none → H b = none
  hid : ∀ b o, μ b = some .hid → H b = some o → μ' b = some .hid ∧ H' b = some o
section
variable {K : PySem.W.Frag} {μ μ1 μ2 : Mu} {H H1 H2 : Hp} {a : Addr} {v : V} {d : D}
theorem Gr.refl : Gr μ H μ H := ⟨fun _ _ _ h => h, fun _ h h' => absurd h h', fun _ _ h h' => ⟨h, h'⟩⟩
theorem Gr.out (g : Gr μ H μ1 H1) {b : Addr} {o : HO} (n : μ b = none) (h : H b = some o) : μ1 b = none := by
  cases q : μ1 b with
  | none => rfl
  | some u =>
    have := g.new b n (by rw [q]; simp)
    rw [h] at this
    cases this
theorem Gr.trans (g : Gr μ H μ1 H1) (g' : Gr μ1 H1 μ2 H2) : Gr μ H μ2 H2 where
  keep := fun b o n h => g'.keep b o (g.out n h) (g.keep b o n h)
  new := fun b n h => by
    by_cases q : μ1 b = none
    · cases z : H b with
      | none => rfl
      | some o =>
        have := g'.new b q h
        rw [g.keep b o n z] at this
        cases this
    · exact g.new b n q
  hid := fun b o h h' => let ⟨a1, a2⟩ := g.hid b o h h'; g'.hid b o a1 a2
theorem Gr.rd (g : Gr μ H μ1 H1) {b : Addr} {u : HO} (n : μ b = none) (h : Rd H b u) : μ1 b = none ∧ Rd H1 b u := by
  rcases h with h | ⟨o, h⟩
  · exact ⟨g.out n h, .inl (g.keep b _ n h)⟩
  · exact ⟨g.out n h, .inr ⟨o, g.keep b _ n h⟩⟩
mutual
theorem Da.grow (g : Gr μ H μ1 H1) : ∀ {v : V} {d : D}, Da K μ H v d → Da K μ1 H1 v d
  | _, _, .non => .non
  | _, _, .bl b => .bl b
  | _, _, .int i => .int i
  | _, _, .str x => .str x
  | _, _, .ty n => .ty n
  | _, _, .ref a => .ref a
  | _, _, .lst n h l => .lst (g.out n h) (g.keep _ _ n h) (DaL.grow g l)
  | _, _, .sq (.inl ⟨n, h⟩) l => .sq (.inl (g.rd n h)) (DaL.grow g l)
  | _, _, .sq (.inr h) l => .sq (.inr h) (DaL.grow g l)
  | _, _, .tup (.inl ⟨n, o, h, z⟩) l => .tup (.inl ⟨g.out n h, o, g.keep _ _ n h, z⟩) (DaL.grow g l)
  | _, _, .tup (.inr h) l => .tup (.inr h) (DaL.grow g l)
  | _, _, .obj n h l => .obj (g.out n h) (g.keep _ _ n h) (DaF.grow g l)
  | _, _, .dK n h l => .dK (g.out n h) (g.keep _ _ n h) (DaK.grow g l)
  | _, _, .dN n h l => .dN (let ⟨_, e⟩ := h; g.out n e) (h.to fun o => g.keep _ o n) (DaN.grow g l)
theorem DaL.grow (g : Gr μ H μ1 H1) : ∀ {vs : List V} {ds : List D}, DaL K μ H vs ds → DaL K μ1 H1 vs ds
  | _, _, .nil => .nil
  | _, _, .cons h l => .cons (Da.grow g h) (DaL.grow g l)
theorem DaF.grow (g : Gr μ H μ1 H1) : ∀ {vs : List (Str × V)} {ds : List (Str × D)}, DaF K μ H vs ds → DaF K μ1 H1 vs ds
  | _, _, .nil => .nil
  | _, _, .cons h l => .cons (Da.grow g h) (DaF.grow g l)
theorem DaK.grow (g : Gr μ H μ1 H1) : ∀ {vs : List (Key × V)} {ds : List (Key × D)}, DaK K μ H vs ds → DaK K μ1 H1 vs ds
  | _, _, .nil => .nil
  | _, _, .cons h l => .cons (Da.grow g h) (DaK.grow g l)
theorem DaN.grow (g : Gr μ H μ1 H1) : ∀ {vs : List (NestedKey × Addr × Value)} {ds : List (NestedKey × D)}, DaN K μ H vs ds → DaN K μ1 H1 vs ds
  | _, _, .nil => .nil
  | _, _, .cons h z r h2 l => .cons (Da.grow g h) z r (Da.grow g h2) (DaN.grow g l)
end
theorem ObOk.grow (g : Gr μ H μ1 H1) (e : H1 a = H a) : ∀ {o : Ob}, ObOk K μ H a o → ObOk K μ1 H1 a o
  | .lst _, ⟨vs, h, l⟩ => ⟨vs, e.trans h, l.grow g⟩
  | .dK _, ⟨vs, h, l⟩ => ⟨vs, e.trans h, l.grow g⟩
  | .ins _ _, ⟨dx, fv, h, l⟩ => ⟨dx, fv, e.trans h, l.grow g⟩
  | .hid, h => fun z => h (e.symm.trans z)
  | .xd _, ⟨fv, h, l⟩ => ⟨fv, e.trans h, l.grow g⟩
  | .dN _ _, ⟨xs, h, l⟩ => ⟨xs, h.to fun o q => e.trans q, l.grow g⟩
  | .dL _ _ _, ⟨xs, es, ep, h, z, l⟩ => ⟨xs, es, ep, e.trans h, z, l.grow g⟩
theorem DaL.length : ∀ {vs : List V} {ds : List D}, DaL K μ H vs ds → vs.length = ds.length
  | _, _, .nil => rfl
  | _, _, .cons _ l => congrArg (· + 1) l.length
theorem DaL.get : ∀ {vs : List V} {ds : List D} {i : Nat} {d : D}, DaL K μ H vs ds → ds[i]? = some d → ∃ v, vs[i]? = some v ∧ Da K μ H v d
  | _, _, _, _, .nil, e => by simp at e
  | _, _, 0, _, .cons h _, e => by simp at e; subst e; exact ⟨_, rfl, h⟩
  | _, _, i + 1, d, .cons _ l, e => by
    obtain ⟨v, h1, h2⟩ := DaL.get (i := i) (d := d) l (by simpa using e)
    exact ⟨v, by simpa using h1, h2⟩
theorem DaL.got : ∀ {vs : List V} {ds : List D} {i : Nat} {v : V}, DaL K μ H vs ds → vs[i]? = some v → ∃ d, ds[i]? = some d ∧ Da K μ H v d
  | _, _, _, _, .nil, e => by simp at e
  | _, _, 0, _, .cons h _, e => by simp at e; subst e; exact ⟨_, rfl, h⟩
  | _, _, i + 1, d, .cons _ l, e => by
    obtain ⟨v, h1, h2⟩ := DaL.got (i := i) (v := d) l (by simpa using e)
    exact ⟨v, by simpa using h1, h2⟩
theorem DaL.append : ∀ {vs ws : List V} {ds es : List D}, DaL K μ H vs ds → DaL K μ H ws es → DaL K μ H (vs ++ ws) (ds ++ es)
  | _, _, _, _, .nil, s => s
  | _, _, _, _, .cons h l, s => .cons h (l.append s)
theorem DaL.take : ∀ {vs : List V} {ds : List D} (n : Nat), DaL K μ H vs ds → DaL K μ H (vs.take n) (ds.take n)
  | _, _, 0, _ => .nil
  | _, _, _ + 1, .nil => .nil
  | _, _, n + 1, .cons h l => .cons h (l.take n)
theorem DaL.drop : ∀ {vs : List V} {ds : List D} (n : Nat), DaL K μ H vs ds → DaL K μ H (vs.drop n) (ds.drop n)
  | _, _, 0, h => h
  | _, _, _ + 1, .nil => .nil
  | _, _, n + 1, .cons _ l => l.drop n
theorem DaL.rev : ∀ {vs : List V} {ds : List D}, DaL K μ H vs ds → DaL K μ H vs.reverse ds.reverse
  | _, _, .nil => .nil
  | _, _, .cons h l => by
    rw [List.reverse_cons, List.reverse_cons]
    exact l.rev.append (.cons h .nil)
theorem DaL.set {v : V} {d : D} (h : Da K μ H v d) : ∀ {vs : List V} {ds : List D} (i : Nat), DaL K μ H vs ds → DaL K μ H (vs.set i v) (ds.set i d)
  | _, _, _, .nil => .nil
  | _, _, 0, .cons _ l => .cons h l
  | _, _, i + 1, .cons q l => .cons q (DaL.set h i l)
theorem DaL.ints : ∀ (ns : List Int), DaL K μ H (ns.map V.int) (ns.map D.int)
  | [] => .nil
  | n :: ns => .cons (.int n) (DaL.ints ns)
theorem DaL.ofInts : ∀ {vs : List V} {ns : List Int}, DaL K μ H vs (ns.map D.int) → vs = ns.map V.int
  | _, [], .nil => rfl
  | _, n :: ns, .cons h l => by
    cases h
    rw [DaL.ofInts l, List.map_cons]
theorem Da.sqT {vs : List V} (h : (μ a = none ∧ PTu H a vs) ∨ KT K a vs) : SqT K H a vs := h.elim (fun ⟨_, o, e, _⟩ => .inl (.inr ⟨o, e⟩)) fun ⟨o, its, n, h1, h2, _, h4, h5, h6⟩ => .inr ⟨o, its, n, h1, h2, h4, h5, h6⟩
theorem Da.sqL {vs : List V} (h : (μ a = none ∧ Rd H a (.lst vs)) ∨ KL K a vs) : SqL K H a vs := h.elim (fun q => .inl q.2) .inr

/-- a new datum -/
theorem Gr.laid {o : HO} (n : H a = none) : Gr μ H μ (upd H a o) :=
  ⟨fun b u _ h => by rw [upd_ne (ne_of_none h n)]; exact h, fun _ h h' => absurd h h', fun b o h h' => ⟨h, by rw [upd_ne (ne_of_none h' n)]; exact h'⟩⟩
theorem J.laid {o : HO} (j : J K μ H) (n : H a = none) : J K μ (upd H a o) := fun b u q =>
  (j b u q).grow (Gr.laid n) (upd_ne fun (e : b = a) => (j b u q).some (by rw [e]; exact n))
/-- a new thing that may change -/
theorem Gr.born {o : HO} {u : Ob} (n : H a = none) : Gr μ H (mup μ a u) (upd H a o) where
  hid := fun b x h h' => ⟨by rw [mup_ne (ne_of_none h' n)]; exact h, by rw [upd_ne (ne_of_none h' n)]; exact h'⟩
  keep := fun b x _ h => by rw [upd_ne (ne_of_none h n)]; exact h
  new := fun b h h' => by
    by_cases e : b = a
    · rw [e]; exact n
    · rw [mup_ne e] at h'; exact absurd h h'
theorem J.born {o : HO} {u : Ob} (j : J K μ H) (n : H a = none) (ok : ObOk K (mup μ a u) (upd H a o) a u) : J K (mup μ a u) (upd H a o) := fun b x q => by
  by_cases e : b = a
  · subst e
    rw [mup_same] at q
    cases q
    exact ok
  · rw [mup_ne e] at q
    exact (j b x q).grow (Gr.born n) (upd_ne e)
/-- a thing changes -/
theorem Gr.turn {o : HO} {u u' : Ob} (h : μ a = some u) (nh : u ≠ .hid := by exact fun z => nomatch z) : Gr μ H (mup μ a u') (upd H a o) where
  hid := fun b x q q' => by
    have e : b ≠ a := fun e => nh (by rw [e, h] at q; exact Option.some.inj q)
    exact ⟨by rw [mup_ne e]; exact q, by rw [upd_ne e]; exact q'⟩
  keep := fun b x n q => by rw [upd_ne fun e => by rw [e, h] at n; cases n]; exact q
  new := fun b n q => by
    by_cases e : b = a
    · rw [e, h] at n; cases n
    · rw [mup_ne e] at q; exact absurd n q
theorem J.turn {o : HO} {u u' : Ob} (j : J K μ H) (h : μ a = some u) (ok : ObOk K (mup μ a u') (upd H a o) a u') (nh : u ≠ .hid := by exact fun z => nomatch z) : J K (mup μ a u') (upd H a o) := fun b x q => by
  by_cases e : b = a
  · subst e
    rw [mup_same] at q
    cases q
    exact ok
  · rw [mup_ne e] at q
    exact (j b x q).grow (Gr.turn h nh) (upd_ne e)
end
end Dl

namespace Dl
open PySem PySem.Spec PyProof.Rows L2

/-! ### data as the library reads it -/
mutual
def py : D → PyData
  | .non => .none
  | .bl b => .bool b
  | .int i => .int i
  | .str x => .str x
  | .ty _ => .none
  | .ref _ => .none
  | .lst xs => .list (pyL xs)
  | .sq xs => .list (pyL xs)
  | .tup xs => .tuple (pyL xs)
  | .obj _ _ => .none
  | .dK _ => .none
  | .dN _ _ => .none
  | .set _ _ => .none
def pyL : List D → List PyData
  | [] => []
  | x :: xs => py x :: pyL xs
end
mutual
/-- made of None, bools, ints, texts, lists, tuples alone -/
def pur : D → Bool
  | .non => true
  | .bl _ => true
  | .int _ => true
  | .str _ => true
  | .ty _ => false
  | .ref _ => false
  | .lst xs => purL xs
  | .sq xs => purL xs
  | .tup xs => purL xs
  | .obj _ _ => false
  | .dK _ => false
  | .dN _ _ => false
  | .set _ _ => false
def purL : List D → Bool
  | [] => true
  | x :: xs => pur x && purL xs
end
mutual
theorem py_plain : ∀ d : D, (py d).plain = true
  | .non => by simp only [py, PyData.plain]
  | .bl b => by simp only [py, PyData.plain]
  | .int i => by simp only [py, PyData.plain]
  | .str x => by simp only [py, PyData.plain]
  | .ty _ => by simp only [py, PyData.plain]
  | .ref _ => by simp only [py, PyData.plain]
  | .lst xs => by simp only [py, PyData.plain]; exact pyL_plain xs
  | .sq xs => by simp only [py, PyData.plain]; exact pyL_plain xs
  | .tup xs => by simp only [py, PyData.plain]; exact pyL_plain xs
  | .obj _ _ => by simp only [py, PyData.plain]
  | .dK _ => by simp only [py, PyData.plain]
  | .dN _ _ => by simp only [py, PyData.plain]
  | .set _ _ => by simp only [py, PyData.plain]
theorem pyL_plain : ∀ ds : List D, PyData.plainAll (pyL ds) = true
  | [] => by simp only [pyL, PyData.plainAll]
  | x :: xs => by simp only [pyL, PyData.plainAll, py_plain x, pyL_plain xs, Bool.and_self]
end
mutual
theorem Da.dp {K : PySem.W.Frag} {μ : Mu} {H : Hp} : ∀ {v : V} {d : D}, Da K μ H v d → pur d = true → Dp K H v (py d)
  | _, _, .non, _ => by simp only [py]; exact .non
  | _, _, .bl b, _ => by simp only [py]; exact .bl b
  | _, _, .int i, _ => by simp only [py]; exact .int i
  | _, _, .str x, _ => by simp only [py]; exact .str x
  | _, _, .ty n, h => by simp [pur] at h
  | _, _, .ref a, h => by simp [pur] at h
  | _, _, .lst n e l, h => by simp only [py]; exact .lst (SqL.of e) (DaL.dp l (by simpa only [pur] using h))
  | _, _, .sq e l, h => by simp only [py]; exact .lst (Da.sqL e) (DaL.dp l (by simpa only [pur] using h))
  | _, _, .tup e l, h => by simp only [py]; exact .tup (Da.sqT e) (DaL.dp l (by simpa only [pur] using h))
  | _, _, .obj _ _ _, h => by simp [pur] at h
  | _, _, .dK _ _ _, h => by simp [pur] at h
  | _, _, .dN _ _ _, h => by simp [pur] at h
theorem DaL.dp {K : PySem.W.Frag} {μ : Mu} {H : Hp} : ∀ {vs : List V} {ds : List D}, DaL K μ H vs ds → purL ds = true → DpAll K H vs (pyL ds)
  | _, _, .nil, _ => by simp only [pyL]; exact .nil
  | _, _, .cons h l, q => by
    simp only [purL, Bool.and_eq_true] at q
    simp only [pyL]
    exact .cons (Da.dp h q.1) (DaL.dp l q.2)
end
/-- a list that may change, as the list that it is now -/
def vw (μ : Mu) : D → D
  | .ref a => match μ a with
    | some (.lst xs) => .lst xs
    | _ => .ref a
  | d => d
theorem Da.vdp {K : PySem.W.Frag} {μ : Mu} {H : Hp} {v : V} {d : D} (j : J K μ H) (h : Da K μ H v d) (p : pur (vw μ d) = true) : Dp K H v (py (vw μ d)) := by
  cases d with
  | ref a =>
    cases h
    cases q : μ a with
    | none => simp [vw, q, pur] at p
    | some o =>
      cases o with
      | lst xs =>
        obtain ⟨vs, e, l⟩ := j a _ q
        simp only [vw, q, pur] at p ⊢
        simp only [py]
        exact .lst (SqL.of e) (l.dp p)
      | dK kvs => simp [vw, q, pur] at p
      | ins C fs => simp [vw, q, pur] at p
      | hid => simp [vw, q, pur] at p
      | xd _ => simp [vw, q, pur] at p
      | dN _ _ => simp [vw, q, pur] at p
      | dL _ _ _ => simp [vw, q, pur] at p
  | _ => exact h.dp p

/-! ### the judgements -/
abbrev Ro := List (Option D)
abbrev DQ := D → Mu → Prop
abbrev DE := Ro → Mu → DQ → Prop
abbrev DT := Ro → Mu → (Bool → Mu → Prop) → Prop
abbrev DA := Ro → Mu → (List D → Mu → Prop) → Prop
/-- what has held since the entry, and goes on holding -/
structure Gh where
  at_ : Mu → Hp → Prop
  go : ∀ {μ H μ' H'}, at_ μ H → Gr μ H μ' H' → at_ μ' H'
structure Okd (K : PySem.W.Frag) (G : Gh) (μ : Mu) (H : Hp) (σ : L2.St) (ρ : Ro) : Prop where
  j : J K μ H
  g : G.at_ μ H
  len : σ.length = ρ.length
  of : ∀ (i : Nat) (d : D), ρ[i]? = some (some d) → ∃ v, σ[i]? = some (some v) ∧ Da K μ H v d
/-- what is wanted, below and above -/
def Kt (K : PySem.W.Frag) (μ : Mu) (H : Hp) (Q : VK) (Qd : DQ) : Prop := ∀ v d H' μ', Gr μ H μ' H' → J K μ' H' → Da K μ' H' v d → Qd d μ' → Q v H'
def KtL (K : PySem.W.Frag) (μ : Mu) (H : Hp) (Q : List V → Hp → Prop) (Qd : List D → Mu → Prop) : Prop := ∀ v d H' μ', Gr μ H μ' H' → J K μ' H' → DaL K μ' H' v d → Qd d μ' → Q v H'
def KtB (K : PySem.W.Frag) (μ : Mu) (H : Hp) (Q : Bool → Hp → Prop) (Qd : Bool → Mu → Prop) : Prop := ∀ b H' μ', Gr μ H μ' H' → J K μ' H' → Qd b μ' → Q b H'
section
variable {K : PySem.W.Frag} {G : Gh} {μ μ1 : Mu} {H H1 : Hp} {σ : L2.St} {ρ : Ro}
theorem Okd.grow (o : Okd K G μ H σ ρ) (g : Gr μ H μ1 H1) (j : J K μ1 H1) : Okd K G μ1 H1 σ ρ := ⟨j, G.go o.g g, o.len, fun i d e => let ⟨v, e1, h⟩ := o.of i d e; ⟨v, e1, h.grow g⟩⟩
theorem Okd.set (o : Okd K G μ H σ ρ) {v : V} {d : D} (i : Nat) (h : Da K μ H v d) : Okd K G μ H (σ.set i (some v)) (ρ.set i (some d)) := by
  refine ⟨o.j, o.g, by simpa using o.len, fun k e he => ?_⟩
  by_cases hk : k = i
  · subst hk
    by_cases hl : k < ρ.length
    · rw [List.getElem?_set_self hl] at he
      cases he
      exact ⟨v, List.getElem?_set_self (by rw [o.len]; exact hl), h⟩
    · rw [List.getElem?_eq_none (by simpa using hl)] at he
      cases he
  · rw [List.getElem?_set_ne (Ne.symm hk)] at he ⊢
    exact o.of k e he
theorem Kt.after {Q : VK} {Qd : DQ} (k : Kt K μ H Q Qd) (g : Gr μ H μ1 H1) : Kt K μ1 H1 Q Qd := fun v d H' μ' g' j h q => k v d H' μ' (g.trans g') j h q
theorem KtL.after {Q : List V → Hp → Prop} {Qd : List D → Mu → Prop} (k : KtL K μ H Q Qd) (g : Gr μ H μ1 H1) : KtL K μ1 H1 Q Qd := fun v d H' μ' g' j h q => k v d H' μ' (g.trans g') j h q
theorem KtB.after {Q : Bool → Hp → Prop} {Qd : Bool → Mu → Prop} (k : KtB K μ H Q Qd) (g : Gr μ H μ1 H1) : KtB K μ1 H1 Q Qd := fun b H' μ' g' j q => k b H' μ' (g.trans g') j q
theorem Kt.now {Q : VK} {Qd : DQ} (k : Kt K μ H Q Qd) (j : J K μ H) {v : V} {d : D} (h : Da K μ H v d) (q : Qd d μ) : Q v H := k v d H μ Gr.refl j h q
/-- a new datum -/
theorem Kt.new {Q : VK} {Qd : DQ} (k : Kt K μ H Q Qd) (j : J K μ H) {p : Addr} {o : HO} {d : D} (n : H p = none) (h : Da K μ (upd H p o) (.ref p) d) (q : Qd d μ) : Q (.ref p) (upd H p o) :=
  k _ d _ μ (Gr.laid n) (j.laid n) h q
theorem da_tup {vs : List V} {ds : List D} {p : Addr} {o : Obj} (z : plainT o) (j : J K μ H) (n : H p = none) (l : DaL K μ H vs ds) : Da K μ (upd H p (.frz o (.tup vs))) (.ref p) (.tup ds) := .tup (.inl ⟨j.free n, o, upd_same, z⟩) (l.grow (Gr.laid n))
theorem da_lst {vs : List V} {ds : List D} {p : Addr} (j : J K μ H) (n : H p = none) (l : DaL K μ H vs ds) : Da K μ (upd H p (.lst vs)) (.ref p) (.lst ds) := .lst (j.free n) upd_same (l.grow (Gr.laid n))
end

structure PD (X : Cx) (G : Gh) (e : Expr) (t : DE) : Prop where
  ex : ∃ te, PE X e te ∧ ∀ {σ : L2.St} {H : Hp} {ρ : Ro} {μ : Mu} {Q : VK} {Qd : DQ}, Okd X.K G μ H σ ρ → t ρ μ Qd → Kt X.K μ H Q Qd → te σ H Q
structure PDT (X : Cx) (G : Gh) (e : Expr) (t : DT) : Prop where
  ex : ∃ te, PT X e te ∧ ∀ {σ : L2.St} {H : Hp} {ρ : Ro} {μ : Mu} {Q : Bool → Hp → Prop} {Qd : Bool → Mu → Prop}, Okd X.K G μ H σ ρ → t ρ μ Qd → KtB X.K μ H Q Qd → te σ H Q
structure PDW (X : Cx) (G : Gh) (e : Expr) (t : DT) : Prop where
  ex : ∃ te, PW X e te ∧ ∀ {σ : L2.St} {H : Hp} {ρ : Ro} {μ : Mu} {Q : Bool → Hp → Prop} {Qd : Bool → Mu → Prop}, Okd X.K G μ H σ ρ → t ρ μ Qd → KtB X.K μ H Q Qd → te σ H Q
structure PDA (X : Cx) (G : Gh) (es : List Expr) (t : DA) : Prop where
  ex : ∃ te, PA X es te ∧ ∀ {σ : L2.St} {H : Hp} {ρ : Ro} {μ : Mu} {Q : List V → Hp → Prop} {Qd : List D → Mu → Prop}, Okd X.K G μ H σ ρ → t ρ μ Qd → KtL X.K μ H Q Qd → te σ H Q
structure PDK (X : Cx) (G : Gh) (es : List Keyword) (t : DA) : Prop where
  ex : ∃ te, PK X es te ∧ ∀ {σ : L2.St} {H : Hp} {ρ : Ro} {μ : Mu} {Q : List V → Hp → Prop} {Qd : List D → Mu → Prop}, Okd X.K G μ H σ ρ → t ρ μ Qd → KtL X.K μ H Q Qd → te σ H Q

/-! ### expressions -/
def slot : Ro → Nat → Option D
  | [], _ => none
  | x :: _, 0 => x
  | _ :: r, n + 1 => slot r n
theorem slot_get : ∀ {ρ : Ro} {i : Nat} {d : D}, slot ρ i = some d → ρ[i]? = some (some d)
  | [], _, _, h => by simp [slot] at h
  | x :: _, 0, d, h => by simp only [slot] at h; subst h; rfl
  | _ :: r, n + 1, d, h => by simpa using slot_get (ρ := r) (i := n) (d := d) h
def dVar (i : Nat) : DE := fun ρ μ Q => match slot ρ i with
  | some d => Q d μ
  | none => False
def dC (d : D) : DE := fun _ μ Q => Q d μ
abbrev G2 := D → D → Mu → DQ → Prop
def dOp (g : G2) (ta tb : DE) : DE := fun ρ μ Q => ta ρ μ fun x μ1 => tb ρ μ1 fun y μ2 => g x y μ2 Q
def dNil : DA := fun _ μ Q => Q [] μ
def dCons (ta : DE) (tr : DA) : DA := fun ρ μ Q => ta ρ μ fun x μ1 => tr ρ μ1 fun xs μ2 => Q (x :: xs) μ2
/-- an operation on values and on data -/
def Lf2 (K : PySem.W.Frag) (r : R2) (g : G2) : Prop := ∀ {x y : V} {dx dy : D} {H : Hp} {μ : Mu} {Q : VK} {Qd : DQ}, J K μ H → Da K μ H x dx → Da K μ H y dy → g dx dy μ Qd → Kt K μ H Q Qd → r x y H Q
def Lf1 (K : PySem.W.Frag) (r : V → Hp → VK → Prop) (g : D → Mu → DQ → Prop) : Prop := ∀ {x : V} {dx : D} {H : Hp} {μ : Mu} {Q : VK} {Qd : DQ}, J K μ H → Da K μ H x dx → g dx μ Qd → Kt K μ H Q Qd → r x H Q
def LfL (K : PySem.W.Frag) (r : List V → Hp → VK → Prop) (g : List D → Mu → DQ → Prop) : Prop := ∀ {xs : List V} {ds : List D} {H : Hp} {μ : Mu} {Q : VK} {Qd : DQ}, J K μ H → DaL K μ H xs ds → g ds μ Qd → Kt K μ H Q Qd → r xs H Q
section
variable {X : Cx} {G : Gh} {a b e : Expr} {es : List Expr} {ta tb te : DE} {tA : DA} {pos p : Pos}
theorem pd_var (i : Nat) {x : Str} (hN : X.N[i]? = some x := by rfl) (hv : Vis X.env.scope x := by first | exact Or.inl rfl | exact Or.inr (Or.inl rfl) | exact Or.inr (Or.inr rfl)) (hd : (x == ("__debug__" : Str)) = false := by decide)
    (hcd : (x == ("__classdict__" : Str)) = false := by decide) : PD X G (.Name x pos) (dVar i) := by
  refine ⟨_, pe_var hN hv hd hcd, @fun σ H ρ μ Q Qd o t k => ?_⟩
  unfold dVar at t
  cases q : slot ρ i with
  | none => rw [q] at t; exact t.elim
  | some d =>
    rw [q] at t
    obtain ⟨v, e, h⟩ := o.of i d (slot_get q)
    exact ⟨v, e, k.now o.j h t⟩
/-- a written constant, a constant of the module -/
theorem pd_k {v : V} {d : D} (h : PE X e (tC v)) (hd : ∀ μ H, Da X.K μ H v d) : PD X G e (dC d) := ⟨_, h, @fun σ H ρ μ Q Qd o t k => k.now o.j (hd μ H) t⟩
theorem pd_int {i j} : PD X G (.Constant (.int i) j pos) (dC (.int i)) := pd_k pe_int fun _ _ => .int i
theorem pd_str {i j} : PD X G (.Constant (.str i) j pos) (dC (.str i)) := pd_k pe_str fun _ _ => .str i
theorem pd_bl {i j} : PD X G (.Constant (.bool i) j pos) (dC (.bl i)) := pd_k pe_bl fun _ _ => .bl i
theorem pd_non {j} : PD X G (.Constant .none j pos) (dC .non) := pd_k pe_non fun _ _ => .non
theorem pd_glob {x : Str} {v : V} {u : Value} {d : D} (hm : X.mg x = some u) (r : RelV v u) (hd : ∀ μ H, Da X.K μ H v d) (hg : Gl X x) (hdb : (x == ("__debug__" : Str)) = false := by decide) : PD X G (.Name x pos) (dC d) := pd_k (pe_glob hg hm r hdb) hd

theorem pd_gs {x z : Str} (h : ∃ t, X.mg x = some (.str z t)) (hg : Gl X x := by rfl) (hdb : (x == ("__debug__" : Str)) = false := by decide) : PD X G (.Name x pos) (dC (.str z)) :=
  pd_glob (v := .str z) h.choose_spec ⟨_, rfl⟩ (fun _ _ => .str z) hg hdb
theorem pd_gi {x : Str} {z : Int} (h : ∃ t, X.mg x = some (.int z t)) (hg : Gl X x := by rfl) (hdb : (x == ("__debug__" : Str)) = false := by decide) : PD X G (.Name x pos) (dC (.int z)) :=
  pd_glob (v := .int z) h.choose_spec ⟨_, rfl⟩ (fun _ _ => .int z) hg hdb

theorem pd_op {op : Operator} {r : R2} {g : G2} (ho : OpR X (binaryOp op) r) (hg : Lf2 X.K r g) (ha : PD X G a ta) (hb : PD X G b tb) : PD X G (.BinOp a op b pos) (dOp g ta tb) := by
  obtain ⟨ea, pa, fa⟩ := ha.ex
  obtain ⟨eb, pb, fb⟩ := hb.ex
  refine ⟨_, pe_op ho pa pb, @fun σ H ρ μ Q Qd o t k => ?_⟩
  refine fa o t fun x dx H1 μ1 g1 j1 h1 t1 => ?_
  refine fb (o.grow g1 j1) t1 fun y dy H2 μ2 g2 j2 h2 t2 => ?_
  exact hg j2 (h1.grow g2) h2 t2 (k.after (g1.trans g2))
theorem pd_cmp {op : CmpOp} {r : R2} {g : G2} (ho : OpR X (compareOp op) r) (hg : Lf2 X.K r g) (ha : PD X G a ta) (hb : PD X G b tb) (hm : behindInMarks op b = false) : PD X G (.Compare a [op] [b] pos) (dOp g ta tb) := by
  obtain ⟨ea, pa, fa⟩ := ha.ex
  obtain ⟨eb, pb, fb⟩ := hb.ex
  refine ⟨_, pe_cmpR ho pa pb hm, @fun σ H ρ μ Q Qd o t k => ?_⟩
  refine fa o t fun x dx H1 μ1 g1 j1 h1 t1 => ?_
  refine fb (o.grow g1 j1) t1 fun y dy H2 μ2 g2 j2 h2 t2 => ?_
  exact hg j2 (h1.grow g2) h2 t2 (k.after (g1.trans g2))
theorem pd_ix {r : R2} {g : G2} (ho : IxR X r) (hg : Lf2 X.K r g) (ha : PD X G a ta) (hb : PD X G b tb) (hs : PlainIx b := by exact fun _ _ => rfl) : PD X G (.Subscript a b pos) (dOp g ta tb) := by
  obtain ⟨ea, pa, fa⟩ := ha.ex
  obtain ⟨eb, pb, fb⟩ := hb.ex
  refine ⟨_, pe_ix ho pa pb hs, @fun σ H ρ μ Q Qd o t k => ?_⟩
  refine fa o t fun x dx H1 μ1 g1 j1 h1 t1 => ?_
  refine fb (o.grow g1 j1) t1 fun y dy H2 μ2 g2 j2 h2 t2 => ?_
  exact hg j2 (h1.grow g2) h2 t2 (k.after (g1.trans g2))
def dUn (g : D → Mu → DQ → Prop) (ta : DE) : DE := fun ρ μ Q => ta ρ μ fun x μ1 => g x μ1 Q
theorem pd_un {op : UnaryOp} {r : V → Hp → VK → Prop} {g : D → Mu → DQ → Prop} (ho : UnR X (unaryOp op) r) (hg : Lf1 X.K r g) (ha : PD X G a ta) : PD X G (.UnaryOp op a pos) (dUn g ta) := by
  obtain ⟨ea, pa, fa⟩ := ha.ex
  refine ⟨_, pe_un ho pa, @fun σ H ρ μ Q Qd o t k => ?_⟩
  exact fa o t fun x dx H1 μ1 g1 j1 h1 t1 => hg j1 h1 t1 (k.after g1)

/-! argument lists, displays -/
theorem pda_nil : PDA X G [] dNil := ⟨_, pa_nil, @fun σ H ρ μ Q Qd o t k => k _ _ _ _ Gr.refl o.j .nil t⟩
theorem pda_cons (ha : PD X G e te) (hr : PDA X G es tA) (hs : starEach (e :: es) X.env = (false, eval e X.env) :: starEach es X.env := by rfl) : PDA X G (e :: es) (dCons te tA) := by
  obtain ⟨ea, pa, fa⟩ := ha.ex
  obtain ⟨eb, pb, fb⟩ := hr.ex
  refine ⟨_, pa_cons pa pb hs, @fun σ H ρ μ Q Qd o t k => ?_⟩
  refine fa o t fun x dx H1 μ1 g1 j1 h1 t1 => ?_
  refine fb (o.grow g1 j1) t1 fun y dy H2 μ2 g2 j2 h2 t2 => ?_
  exact k _ _ _ _ (g1.trans g2) j2 (.cons (h1.grow g2) h2) t2
theorem pdk_nil : PDK X G [] dNil := ⟨_, pk_nil, @fun σ H ρ μ Q Qd o t k => k _ _ _ _ Gr.refl o.j .nil t⟩
theorem pdk_cons {kws : List Keyword} {nm : Option Str} {kpos : Pos} (ha : PD X G e te) (hr : PDK X G kws tA) : PDK X G (⟨nm, e, kpos⟩ :: kws) (dCons te tA) := by
  obtain ⟨ea, pa, fa⟩ := ha.ex
  obtain ⟨eb, pb, fb⟩ := hr.ex
  refine ⟨_, pk_cons pa pb, @fun σ H ρ μ Q Qd o t k => ?_⟩
  refine fa o t fun x dx H1 μ1 g1 j1 h1 t1 => ?_
  refine fb (o.grow g1 j1) t1 fun y dy H2 μ2 g2 j2 h2 t2 => ?_
  exact k _ _ _ _ (g1.trans g2) j2 (.cons (h1.grow g2) h2) t2
def dTup (t : DA) : DE := fun ρ μ Q => t ρ μ fun xs μ1 => xs.length ≤ sizeLine ∧ Q (.tup xs) μ1
def dLst (t : DA) : DE := fun ρ μ Q => t ρ μ fun xs μ1 => xs.length ≤ sizeLine ∧ Q (.lst xs) μ1
/-- a list that will be changed -/
def dLstM (t : DA) : DE := fun ρ μ Q => t ρ μ fun xs μ1 => xs.length ≤ sizeLine ∧ ∀ p, μ1 p = none → Q (.ref p) (mup μ1 p (.lst xs))
theorem pd_tup {x1} (h : PDA X G es tA) : PD X G (.Tuple es x1 pos) (dTup tA) := by
  obtain ⟨ea, pa, fa⟩ := h.ex
  refine ⟨_, pe_tupF pa, @fun σ H ρ μ Q Qd o t k => ?_⟩
  refine fa o t fun x dx H1 μ1 g1 j1 h1 t1 => ⟨h1.length ▸ t1.1, fun p ob n z => ?_⟩
  exact (k.after g1).new j1 n (da_tup z j1 n h1) t1.2
theorem pd_lst (h : PDA X G es tA) : PD X G (.List es pos) (dLst tA) := by
  obtain ⟨ea, pa, fa⟩ := h.ex
  refine ⟨_, pe_lst pa, @fun σ H ρ μ Q Qd o t k => ?_⟩
  refine fa o t fun x dx H1 μ1 g1 j1 h1 t1 => ⟨h1.length ▸ t1.1, fun p n => ?_⟩
  exact (k.after g1).new j1 n (da_lst j1 n h1) t1.2
theorem pd_lstM (h : PDA X G es tA) : PD X G (.List es pos) (dLstM tA) := by
  obtain ⟨ea, pa, fa⟩ := h.ex
  refine ⟨_, pe_lst pa, @fun σ H ρ μ Q Qd o t k => ?_⟩
  refine fa o t fun x dx H1 μ1 g1 j1 h1 t1 => ⟨h1.length ▸ t1.1, fun p n => ?_⟩
  exact (k.after g1) _ _ _ _ (Gr.born n) (j1.born (u := .lst dx) n ⟨_, upd_same, h1.grow (Gr.born n)⟩) (.ref p) (t1.2 p (j1.free n))

/-! calls -/
def dCB (g : List D → Mu → DQ → Prop) (t : DA) : DE := fun ρ μ Q => t ρ μ fun ds μ1 => g ds μ1 Q
theorem pd_b {x : Str} {id : String} {r : List V → Hp → VK → Prop} {g : List D → Mu → DQ → Prop} (hc : CallR X (.builtin id) r) (hl : LfL X.K r g) (hm : X.mg x = none) (hv : bootBuiltins x = some (.builtin id)) (ha : PDA X G (e :: es) tA) (hg : Gl X x := by rfl)
    (hn : x ≠ "__name__" := by decide) (hdb : (x == ("__debug__" : Str)) = false := by decide)
    (he : starEach (e :: es) X.env = (false, eval e X.env) :: starEach es X.env := by rfl) (hpl : (backTo pos (starEach es X.env)).any (·.1) = false := by rfl) : PD X G (.Call (.Name x p) (e :: es) [] pos) (dCB g tA) := by
  obtain ⟨ea, pa, fa⟩ := ha.ex
  refine ⟨_, pe_callB hc hg hm hv pa hn hdb he hpl, @fun σ H ρ μ Q Qd o t k => ?_⟩
  exact fa o t fun x dx H1 μ1 g1 j1 h1 t1 => hl j1 h1 t1 (k.after g1)
theorem pd_ty {x : Str} {T : String} {r : List V → Hp → VK → Prop} {g : List D → Mu → DQ → Prop} (hc : CallR X (.type T) r) (hl : LfL X.K r g) (hm : X.mg x = none) (hv : bootBuiltins x = some (.type T)) (ha : PDA X G (e :: es) tA) (hg : Gl X x := by rfl)
    (hn : x ≠ "__name__" := by decide) (hdb : (x == ("__debug__" : Str)) = false := by decide)
    (he : starEach (e :: es) X.env = (false, eval e X.env) :: starEach es X.env := by rfl) (hpl : (backTo pos (starEach es X.env)).any (·.1) = false := by rfl) : PD X G (.Call (.Name x p) (e :: es) [] pos) (dCB g tA) := by
  obtain ⟨ea, pa, fa⟩ := ha.ex
  refine ⟨_, pe_callTy hc hg hm hv pa hn hdb he hpl, @fun σ H ρ μ Q Qd o t k => ?_⟩
  exact fa o t fun x dx H1 μ1 g1 j1 h1 t1 => hl j1 h1 t1 (k.after g1)

/-- a promise over data -/
abbrev SpD := List D → Mu → DQ → Prop
def up (K : PySem.W.Frag) (spd : SpD) : Sp := fun vs H Q _ => ∃ ds μ Qd, J K μ H ∧ DaL K μ H vs ds ∧ spd ds μ Qd ∧ Kt K μ H Q Qd
/-- a def of the module that may be called by its name -/
structure Cl (P : Program) (w : World) (K : PySem.W.Frag) (mg : Str → Option Value) (base : Heap) (k : Nat) (x : Str) (f : Addr) (fd : FuncData) (ps : List Str) (spd : SpD) : Prop where
  fn : FnG P w K mg base CX0 k f fd ps (up K spd)
  nm : mg x = some (.ref f)
  kp : PySem.W.keepIn K (.ref f) = true
  bd : Binds K fd ps []
def dCall (spd : SpD) (t : DA) : DE := fun ρ μ Q => t ρ μ fun ds μ1 => spd ds μ1 Q
theorem pd_call {x : Str} {k j : Nat} {f : Addr} {fd : FuncData} {ps : List Str} {spd : SpD} (c : Cl X.prog X.w X.K X.mg X.base k x f fd ps spd) (hr : Room j X.A) (hgu : X.A.guards = some []) (ha : PDA X G (e :: es) tA) (hk : k ≤ j := by decide) (hg : Gl X x := by rfl)
    (hdb : (x == ("__debug__" : Str)) = false := by decide) (he : starEach (e :: es) X.env = (false, eval e X.env) :: starEach es X.env := by rfl) (hpl : (backTo pos (starEach es X.env)).any (·.1) = false := by rfl) :
    PD X G (.Call (.Name x p) (e :: es) [] pos) (dCall spd tA) := by
  obtain ⟨ea, pa, fa⟩ := ha.ex
  refine ⟨_, pe_callG c.fn (hr.mono hk) hgu hg c.nm c.kp c.bd .nil pass0 pa hdb he hpl, @fun σ H ρ μ Q Qd o t k => ?_⟩
  refine fa o t fun vs ds H1 μ1 g1 j1 h1 t1 => ?_
  rw [List.append_nil]
  exact ⟨ds, μ1, Qd, j1, h1, t1, k.after g1⟩
def dCallK (spd : SpD) (gD : List D → List D) (t : DA) : DE := fun ρ μ Q => t ρ μ fun ds μ1 => spd (gD ds) μ1 Q
theorem pd_callK {x : Str} {k j : Nat} {f : Addr} {fd : FuncData} {ps ks : List Str} {spd : SpD} {kws : List Keyword} {gg : List Value → List Value → List Value} {gV : List V → List V → List V} {gD : List D → List D} (c : Cl X.prog X.w X.K X.mg X.base k x f fd ps spd)
    (kb : KBinds X.K fd ps ks gg gV) (hD : ∀ {μ : Mu} {H : Hp} {vs : List V} {ds : List D}, DaL X.K μ H vs ds → DaL X.K μ H (gV [] vs) (gD ds)) (hr : Room j X.A) (hgu : X.A.guards = some []) (ha : PDK X G kws tA) (hk : k ≤ j := by decide) (hg : Gl X x := by rfl)
    (hall : (backToKw pos (keywordEach kws X.env)).all (·.1.isSome) = true := by rfl) (hks : (backToKw pos (keywordEach kws X.env)).filterMap (·.1) = ks := by rfl)
    (hdb : (x == ("__debug__" : Str)) = false := by decide) (hpl : ((backTo pos (starEach [] X.env)).any (·.1) || (backToKw pos (keywordEach kws X.env)).any (·.1.isNone)) = false := by rfl) :
    PD X G (.Call (.Name x p) [] kws pos) (dCallK spd gD tA) := by
  obtain ⟨ea, pa, fa⟩ := ha.ex
  refine ⟨_, pe_callKG0 c.fn (hr.mono hk) hgu hg c.nm c.kp kb pass0 pa hall hks hdb hpl, @fun σ H ρ μ Q Qd o t k => ?_⟩
  exact fa o t fun vs ds H1 μ1 g1 j1 h1 t1 => ⟨gD ds, μ1, Qd, j1, hD h1, t1, k.after g1⟩

/-! and, or, not, if: values that are bools; tests -/
def dAnd (ta tb : DE) : DE := fun ρ μ Q => ta ρ μ fun x μ1 => match x with
  | .bl true => tb ρ μ1 Q
  | .bl false => Q (.bl false) μ1
  | _ => False
def dOr (ta tb : DE) : DE := fun ρ μ Q => ta ρ μ fun x μ1 => match x with
  | .bl true => Q (.bl true) μ1
  | .bl false => tb ρ μ1 Q
  | _ => False
variable {rest : List Expr} {tT tU : DT}
theorem pd_one {op} (h : PD X G a ta) : PD X G (.BoolOp op [a] pos) ta := by
  obtain ⟨ea, pa, fa⟩ := h.ex
  exact ⟨_, pe_one pa, @fun σ H ρ μ Q Qd o t k => fa o t k⟩
theorem pd_and (ha : PD X G a ta) (hb : PD X G (.BoolOp .And (b :: rest) pos) tb) : PD X G (.BoolOp .And (a :: b :: rest) pos) (dAnd ta tb) := by
  obtain ⟨ea, pa, fa⟩ := ha.ex
  obtain ⟨eb, pb, fb⟩ := hb.ex
  refine ⟨_, pe_and pa pb, @fun σ H ρ μ Q Qd o t k => ?_⟩
  refine fa o t fun x dx H1 μ1 g1 j1 h1 t1 => ?_
  match dx, h1, t1 with
  | .bl true, .bl _, t1 => exact ⟨true, rfl, iteT (fb (o.grow g1 j1) t1 (k.after g1))⟩
  | .bl false, .bl _, t1 => exact ⟨false, rfl, iteF ((k.after g1).now j1 (.bl false) t1)⟩
theorem pd_or (ha : PD X G a ta) (hb : PD X G (.BoolOp .Or (b :: rest) pos) tb) : PD X G (.BoolOp .Or (a :: b :: rest) pos) (dOr ta tb) := by
  obtain ⟨ea, pa, fa⟩ := ha.ex
  obtain ⟨eb, pb, fb⟩ := hb.ex
  refine ⟨_, pe_or pa pb, @fun σ H ρ μ Q Qd o t k => ?_⟩
  refine fa o t fun x dx H1 μ1 g1 j1 h1 t1 => ?_
  match dx, h1, t1 with
  | .bl true, .bl _, t1 => exact ⟨true, rfl, iteT ((k.after g1).now j1 (.bl true) t1)⟩
  | .bl false, .bl _, t1 => exact ⟨false, rfl, iteF (fb (o.grow g1 j1) t1 (k.after g1))⟩
def gNot : D → Mu → DQ → Prop
  | .bl b, μ, Q => Q (.bl (!b)) μ
  | _, _, _ => False
theorem pd_not (ha : PD X G a ta) : PD X G (.UnaryOp .Not a pos) (dUn gNot ta) := by
  obtain ⟨ea, pa, fa⟩ := ha.ex
  refine ⟨_, pe_not pa, @fun σ H ρ μ Q Qd o t k => ?_⟩
  refine fa o t fun x dx H1 μ1 g1 j1 h1 t1 => ?_
  match dx, h1, t1 with
  | .bl b, .bl _, t1 => exact ⟨b, rfl, (k.after g1).now j1 (.bl _) t1⟩
def dB (ta : DE) : DT := fun ρ μ Q => ta ρ μ fun x μ1 => match x with
  | .bl b => Q b μ1
  | _ => False
theorem pt_b (h : PD X G e te) (he : ∀ whole, isTrue e X.env whole = (do let v ← whole; standAt e.pos; holding [v] (truthy v)) := by intro _; rfl) : PDT X G e (dB te) := by
  obtain ⟨ea, pa, fa⟩ := h.ex
  refine ⟨_, pt_val pa he, @fun σ H ρ μ Q Qd o t k => ?_⟩
  refine fa o t fun x dx H1 μ1 g1 j1 h1 t1 => ?_
  match dx, h1, t1 with
  | .bl b, .bl _, t1 => exact ⟨b, rfl, k b _ _ g1 j1 t1⟩
/-- a comparison as a test -/
theorem pt_c {op : CmpOp} {r : R2} {g : G2} (ho : OpR X (compareOp op) r) (hg : Lf2 X.K r g) (ha : PD X G a ta) (hb : PD X G b tb) (hm : behindInMarks op b = false) : PDT X G (.Compare a [op] [b] pos) (dB (dOp g ta tb)) := by
  obtain ⟨ea, pa, fa⟩ := ha.ex
  obtain ⟨eb, pb, fb⟩ := hb.ex
  refine ⟨_, pt_cmpR ho pa pb hm, @fun σ H ρ μ Q Qd o t k => ?_⟩
  refine fa o t fun x dx H1 μ1 g1 j1 h1 t1 => ?_
  refine fb (o.grow g1 j1) t1 fun y dy H2 μ2 g2 j2 h2 t2 => ?_
  refine hg j2 (h1.grow g2) h2 t2 fun z dz H3 μ3 g3 j3 h3 t3 => ?_
  match dz, h3, t3 with
  | .bl b, .bl _, t3 => exact ⟨b, rfl, k b _ _ ((g1.trans g2).trans g3) j3 t3⟩
def dAndT (t u : DT) : DT := fun ρ μ Q => t ρ μ fun c μ1 => if c = true then u ρ μ1 Q else Q false μ1
def dOrT (t u : DT) : DT := fun ρ μ Q => t ρ μ fun c μ1 => if c = true then Q true μ1 else u ρ μ1 Q
def dNotT (t : DT) : DT := fun ρ μ Q => t ρ μ fun c μ1 => Q (!c) μ1
theorem pt_w (h : PDW X G e tT) : PDT X G e tT := by
  obtain ⟨ea, pa, fa⟩ := h.ex
  exact ⟨_, pa.pt, @fun σ H ρ μ Q Qd o t k => fa o t k⟩
theorem pw_a1 (h : PDT X G a tT) : PDW X G (.BoolOp .And [a] pos) tT := by
  obtain ⟨ea, pa, fa⟩ := h.ex
  exact ⟨_, pw_and1 pa, @fun σ H ρ μ Q Qd o t k => fa o t k⟩
theorem pw_o1 (h : PDT X G a tT) : PDW X G (.BoolOp .Or [a] pos) tT := by
  obtain ⟨ea, pa, fa⟩ := h.ex
  exact ⟨_, pw_or1 pa, @fun σ H ρ μ Q Qd o t k => fa o t k⟩
theorem pw_a (ha : PDT X G a tT) (hb : PDW X G (.BoolOp .And (b :: rest) pos) tU) : PDW X G (.BoolOp .And (a :: b :: rest) pos) (dAndT tT tU) := by
  obtain ⟨ea, pa, fa⟩ := ha.ex
  obtain ⟨eb, pb, fb⟩ := hb.ex
  refine ⟨_, L2.pw_and pa pb, @fun σ H ρ μ Q Qd o t k => ?_⟩
  refine fa o t fun c H1 μ1 g1 j1 t1 => ?_
  cases c with
  | true => exact iteT (fb (o.grow g1 j1) (by simpa using t1) (k.after g1))
  | false => exact iteF (k _ _ _ g1 j1 (by simpa using t1))
theorem pw_o (ha : PDT X G a tT) (hb : PDW X G (.BoolOp .Or (b :: rest) pos) tU) : PDW X G (.BoolOp .Or (a :: b :: rest) pos) (dOrT tT tU) := by
  obtain ⟨ea, pa, fa⟩ := ha.ex
  obtain ⟨eb, pb, fb⟩ := hb.ex
  refine ⟨_, L2.pw_or pa pb, @fun σ H ρ μ Q Qd o t k => ?_⟩
  refine fa o t fun c H1 μ1 g1 j1 t1 => ?_
  cases c with
  | true => exact iteT (k _ _ _ g1 j1 (by simpa using t1))
  | false => exact iteF (fb (o.grow g1 j1) (by simpa using t1) (k.after g1))
theorem pt_n (ha : PDT X G a tT) : PDT X G (.UnaryOp .Not a pos) (dNotT tT) := by
  obtain ⟨ea, pa, fa⟩ := ha.ex
  exact ⟨_, L2.pt_not pa, @fun σ H ρ μ Q Qd o t k => fa o t fun c H1 μ1 g1 j1 t1 => k _ _ _ g1 j1 t1⟩
def dIfE (t : DT) (ta tb : DE) : DE := fun ρ μ Q => t ρ μ fun c μ1 => if c = true then ta ρ μ1 Q else tb ρ μ1 Q
theorem pd_if {c : Expr} (hc : PDT X G c tT) (ha : PD X G a ta) (hb : PD X G b tb) : PD X G (.IfExp c a b pos) (dIfE tT ta tb) := by
  obtain ⟨ec, pc, fc⟩ := hc.ex
  obtain ⟨ea, pa, fa⟩ := ha.ex
  obtain ⟨eb, pb, fb⟩ := hb.ex
  refine ⟨_, pe_ifExp pc pa pb, @fun σ H ρ μ Q Qd o t k => ?_⟩
  refine fc o t fun c H1 μ1 g1 j1 t1 => ?_
  cases c with
  | true => exact iteT (fa (o.grow g1 j1) (by simpa using t1) (k.after g1))
  | false => exact iteF (fb (o.grow g1 j1) (by simpa using t1) (k.after g1))
end
end Dl

/-! t[::-1] of a tuple -/
namespace Dl
open PySem PySem.Spec PyProof.Rows L2
theorem fm_congr {β : Type} {f g : Nat → Option β} : ∀ {l : List Nat}, (∀ k ∈ l, f k = g k) → l.filterMap f = l.filterMap g
  | [], _ => rfl
  | k :: l, h => by
    rw [List.filterMap_cons, List.filterMap_cons, h k List.mem_cons_self, fm_congr fun z hz => h z (List.mem_cons_of_mem _ hz)]
theorem pick_back (items : Array Value) : (((List.range items.size).filterMap fun (k : Nat) => items[(((items.size : Int) - 1) + (k : Int) * (-1)).toNat]?)).toArray = items.toList.reverse.toArray := by
  congr 1
  rw [← PySem.W.krv_all items, ← List.filterMap_reverse]
  have : (List.range items.size).reverse = (List.range items.size).map fun k => items.size - 1 - k := (PySem.W.krv_range items.size).symm
  rw [this, List.filterMap_map]
  refine fm_congr fun k hk => ?_
  have hk' := List.mem_range.mp hk
  have e : (((items.size : Int) - 1) + (k : Int) * (-1)).toNat = items.size - 1 - k := by omega
  rw [e]
  first | done | rfl
section
variable {prog : Program} {w : World} {A : Around} {E : Value → Shared → Prop} {s : Shared}
theorem getItem_tuple_back {t sl : Addr} {items : Array Value} {vl vu vs : Value} {Q : Value → Shared → Prop} (ht : IsTup s.heap t items) (hs : s.heap.IsSliceOf sl vl vu vs) (pl : IsPart vl none) (pu : IsPart vu none) (ps : IsPart vs (some (-1)))
    (h : Q (.ref s.heap.objs.size) { s with heap := s.heap.push { cls := .type "tuple", data := .seq items.toList.reverse.toArray } }) (hz : items.size ≤ sizeLine) : wpAny (model prog w) A (getItem (.ref t) (.ref sl)) Q E s := by
  have hz' : sizeOk (.seq items.toList.reverse.toArray) := by
    show items.toList.reverse.toArray.size ≤ sizeLine
    rw [List.size_toArray, List.length_reverse, Array.length_toList]
    exact hz
  obtain ⟨os, hos, hcs, hds⟩ := id hs
  have hT : s.TypeIs (.ref sl) "slice" := ⟨os, hos, hcs⟩
  cases pl
  cases pu
  cases ps with | int _ tk =>
  unfold getItem
  try with_reducible refine wpAny_holding ?_
  first | refine wpAny_bind (wpAny_pure ?_) | skip
  refine wpAny_bind (wpAny_sequenceKey ht.typeIs (by decide) (wpAny_bind (wpAny_callSpecial?_slot (name := Str.ofString "__getitem__") ht.typeIs PyProof.Rows.slot_tuple_getitem
    (wpAny_call_entry PyProof.Rows.slot_tuple_getitem ht.typeIs entry_tuple_getitem ?_ (args_tuple_getitem _ _)))))
  show wpAny _ _ (Builtin.Tuple.tupleItemsOf (.ref t) >>= _) _ _ s
  refine wpAny_bind (tupleItemsOf_ ht (wpAny_bind (wpAny_typeOf hT ?_)))
  rw [if_pos (by decide)]
  have ap : ∀ {R : Int × Int × Nat → Shared → Prop} {EE : Value → Shared → Prop} {B : Around}, R ((items.size : Int) - 1, -1, items.size) s → wpAny (model prog w) B (Builtin.Slice.sliceApplied (.ref sl) (pure (items.size : Int))) R EE s := by
    intro R EE B q
    unfold Builtin.Slice.sliceApplied Builtin.Slice.sliceFields
    refine wpAny_bind (wpAny_bind (wpAny_field hos hds (x := .none) rfl (wpAny_bind (wpAny_field hos hds (x := .none) rfl (wpAny_bind (wpAny_field hos hds (x := .int (-1) tk) rfl (wpAny_pure ?_)))))))
    refine wpAny_bind (slicePart_int ?_)
    show wpAny _ _ (if ((-1 : Int) == 0) = true then _ else _) _ _ s
    rw [if_neg (by decide)]
    refine wpAny_bind (slicePart_none (wpAny_bind (slicePart_none (wpAny_bind (wpAny_pure ?_)))))
    have e1 : Builtin.Slice.sliceAdjust none none (-1) (items.size : Int) = ((items.size : Int) - 1, -1) := rfl
    have e2 : Builtin.Slice.slicePlaces ((items.size : Int) - 1) (-1) (-1) = items.size := by
      unfold Builtin.Slice.slicePlaces
      rw [if_neg (by decide)]
      by_cases c : (items.size : Int) - 1 > -1
      · rw [if_pos c, show (-(-1) : Int) = 1 by decide, Int.ediv_one]; omega
      · rw [if_neg c]; omega
    show wpAny _ _ (match Builtin.Slice.sliceAdjust none none (-1) (items.size : Int) with | (lo, hi) => pure (lo, (-1 : Int), Builtin.Slice.slicePlaces lo hi (-1))) _ _ s
    rw [e1]
    show wpAny _ _ (pure ((items.size : Int) - 1, (-1 : Int), Builtin.Slice.slicePlaces ((items.size : Int) - 1) (-1) (-1))) _ _ s
    rw [e2]
    exact wpAny_pure q
  refine wpAny_bind (ap ?_)
  have no : ¬ ((((items.size : Int) - 1) == 0 && (-1 : Int) == 1 && items.size == items.size) = true) := by
    rw [show ((-1 : Int) == 1) = false from rfl, Bool.and_false, Bool.false_and]
    exact Bool.false_ne_true
  show wpAny _ _ (if (((items.size : Int) - 1) == 0 && (-1 : Int) == 1 && items.size == items.size) = true then _ else _) _ _ s
  rw [if_neg no, pick_back]
  first
    | exact wpAny_bind (m := Builtin.Tuple.tupleExact _) (wpAny_newObj_type (wpAny_pure ⟨_, rfl, wpAny_pure h⟩) hz')
    | exact wpAny_bind (m := Builtin.Tuple.tupleExact _) (wpAny_newObj_type (wpAny_bind (wpAny_pure (wpAny_pure ⟨_, rfl, wpAny_pure h⟩))) hz')
    | exact wpAny_bind (wpAny_bind (m := Builtin.Tuple.tupleExact _) (wpAny_newObj_type (wpAny_pure (wpAny_pure ⟨_, rfl, wpAny_pure h⟩)) hz'))
    | exact wpAny_bind (wpAny_bind (m := Builtin.Tuple.tupleExact _) (wpAny_newObj_type (wpAny_pure ⟨_, rfl, wpAny_pure h⟩) hz'))
end
section
variable {X : Cx} {G : Gh} {e : Expr} {pos p1 p2 p3 : Pos}
theorem vals_back : ∀ {xs : List V} {us : List Value}, Vals xs us → Vals xs.reverse us.reverse
  | _, _, .nil => .nil
  | _, _, .cons r t => by
    rw [List.reverse_cons, List.reverse_cons]
    exact (vals_back t).append (.cons r .nil)
def rRev (K : PySem.W.Frag) : V → Hp → VK → Prop := fun x H Q => (∃ a xs, x = .ref a ∧ SqL K H a xs ∧ ∀ p, H p = none → Q (.ref p) (upd H p (.lst xs.reverse))) ∨ ∃ a xs, x = .ref a ∧ SqT K H a xs ∧ ∀ p o, H p = none → plainT o → Q (.ref p) (upd H p (.frz o (.tup xs.reverse)))
theorem pe_rev {te : TE} {k : Nat} (he : PE X e te) : PE X (.Subscript e (.Slice none none (some (.UnaryOp .USub (.Constant (.int 1) k p1) p2)) p3) pos) (tUn (rRev X.K) te) := ⟨fun pins s σ H Q I h => by
  refine Subscript_ (thn (he.run pins s σ H _ I h) fun v s1 ⟨x, H1, I1, r1, q⟩ => ?_)
  have st : PO X (some (.UnaryOp .USub (.Constant (.int 1) k p1) p2)) (tPart (tUn (rU fun i => .int (-i)) (tC (.int 1)))) := po_some (pe_un un_neg pe_int)
  refine wpAny_Slice (thn (po_none.run pins s1 σ H1 (fun o H2 => o = none ∧ H2 = H1) I1 ⟨rfl, rfl⟩) fun vl s2 ⟨_, _, I2, pl, el, e2⟩ => ?_)
  subst el e2
  refine thn (po_none.run pins s2 σ _ (fun o H3 => o = none ∧ H3 = _) I2 ⟨rfl, rfl⟩) fun vu s3 ⟨_, _, I3, pu, eu, e3⟩ => ?_
  subst eu e3
  refine thn (st.run pins s3 σ _ (fun o H4 => o = some (-1) ∧ H4 = _) I3 ⟨1, rfl, -1, rfl, rfl, rfl⟩) fun vs s4 ⟨_, H4, I4, ps, eo, e4⟩ => ?_
  subst eo e4
  have I5 : Inv X pins σ _ { s4 with heap := s4.heap.push { cls := .type "slice", data := .fields #[vl, vu, vs] } } := I4.kept (t' := s4.toks) fun b ob q => Heap.get?_push_of_some _ q
  show wpAny (model X.prog X.w) X.A (subscriptTail e (.Slice none none (some (.UnaryOp .USub (.Constant (.int 1) k p1) p2)) p3) v (.ref s4.heap.objs.size)) (EP X pins σ Q) X.xe { s4 with heap := s4.heap.push { cls := .type "slice", data := .fields #[vl, vu, vs] } }
  rcases q with ⟨a, xs, ex, hx, q⟩ | ⟨a, xs, ex, hx, q⟩
  · subst ex
    cases r1
    obtain ⟨its, r, ht, hz⟩ := I5.list hx
    have hl : its.toArray.size ≤ sizeLine := by rw [List.size_toArray, ← r.length]; exact hz
    refine tail_any (ops := [.ref a, .ref s4.heap.objs.size]) ht.isList.typeIs PySem.slot_list_getitem.lookup (wpAny_getItem_list_slice ht.isList (Heap.IsSliceOf.new _ vl vu vs) pl pu ps (by decide) ?_ hl) (by with_unfolding_all rfl)
    rw [PySem.W.krv_pick]
    refine ⟨.ref _, _, I5.laid (t' := s4.toks) (o := .lst xs.reverse) (fun b ob q => Heap.get?_push_of_some _ q) (Nat.le_refl _) ?_, rfl, q _ (I5.hok.fresh (Nat.le_refl _))⟩
    exact ⟨by rw [List.length_reverse]; exact hz, _, 0, vals_back r, Heap.get?_push_size _ rfl⟩
  · subst ex
    cases r1
    obtain ⟨its, r, ht, hz⟩ := I5.tuple hx
    have hl : its.toArray.size ≤ sizeLine := by rw [List.size_toArray, ← r.length]; exact hz
    refine tail_any (ops := [.ref a, .ref s4.heap.objs.size]) ht.typeIs PyProof.Rows.slot_tuple_getitem.lookup (getItem_tuple_back ht (Heap.IsSliceOf.new _ vl vu vs) pl pu ps ?_ hl) (by with_unfolding_all rfl)
    exact ⟨.ref _, _, laidT (t' := s4.toks) I5 (fun b ob q => Heap.get?_push_of_some _ q) (Nat.le_refl _) (by rw [List.length_reverse]; exact hz) (vals_back r) (Heap.get?_push_size _ rfl), rfl, q _ _ (I5.hok.fresh (Nat.le_refl _)) ⟨rfl, rfl⟩⟩⟩
end

/-! ### operators on data -/
section
variable {X : Cx} {G : Gh} {K : PySem.W.Frag}
theorem Da.nowL {μ : Mu} {H : Hp} {v : V} {d : D} {xs : List D} (j : J K μ H) (h : Da K μ H v d) (e : vw μ d = .lst xs) : ∃ a vs, v = .ref a ∧ H a = some (.lst vs) ∧ DaL K μ H vs xs := by
  cases h with
  | lst n e' l =>
    simp only [vw] at e
    cases e
    exact ⟨_, _, rfl, e', l⟩
  | ref a =>
    simp only [vw] at e
    cases q : μ a with
    | none => rw [q] at e; cases e
    | some o =>
      rw [q] at e
      cases o with
      | lst ys =>
        simp only at e
        cases e
        obtain ⟨vs, e1, l⟩ := j a _ q
        exact ⟨a, vs, rfl, e1, l⟩
      | _ => cases e
  | _ => simp [vw] at e
theorem Da.nowT {μ : Mu} {H : Hp} {v : V} {d : D} {xs : List D} (j : J K μ H) (h : Da K μ H v d) (e : vw μ d = .tup xs) : ∃ a vs, v = .ref a ∧ SqT K H a vs ∧ DaL K μ H vs xs := by
  cases h with
  | tup e' l =>
    simp only [vw] at e
    cases e
    exact ⟨_, _, rfl, Da.sqT e', l⟩
  | ref a =>
    simp only [vw] at e
    split at e <;> cases e
  | _ => simp [vw] at e
theorem Da.nowS {μ : Mu} {H : Hp} {v : V} {d : D} {xs : List D} (j : J K μ H) (h : Da K μ H v d) (e : vw μ d = .sq xs) : ∃ a vs, v = .ref a ∧ SqL K H a vs ∧ DaL K μ H vs xs := by
  cases h with
  | sq e' l =>
    simp only [vw] at e
    cases e
    exact ⟨_, _, rfl, Da.sqL e', l⟩
  | ref a =>
    simp only [vw] at e
    split at e <;> cases e
  | _ => simp [vw] at e
theorem Da.nowStr {μ : Mu} {H : Hp} {v : V} {d : D} {z : Str} (h : Da K μ H v d) (e : vw μ d = .str z) : v = .str z := by
  cases h with
  | str x => simp only [vw] at e; cases e; rfl
  | ref a =>
    simp only [vw] at e
    split at e <;> cases e
  | _ => simp [vw] at e
def gAdd : G2 := fun x y μ Q => match x, y with
  | .int i, .int j => Q (.int (i + j)) μ
  | .str a, .str b => a.length + b.length ≤ sizeLine ∧ Q (.str (a ++ b)) μ
  | .tup xs, .tup ys => xs.length + ys.length ≤ sizeLine ∧ Q (.tup (xs ++ ys)) μ
  | x, y => match vw μ x, vw μ y with
    | .lst xs, .lst ys => xs.length + ys.length ≤ sizeLine ∧ Q (.lst (xs ++ ys)) μ
    | _, _ => False
theorem pd_add {a b : Expr} {ta tb : DE} {pos : Pos} (ha : PD X G a ta) (hb : PD X G b tb) : PD X G (.BinOp a .Add b pos) (dOp gAdd ta tb) := by
  refine pd_op (op_add.or (op_add_str.or (op_catF.or op_cat))) (@fun x y dx dy H μ Q Qd j hx hy g k => ?_) ha hb
  unfold gAdd at g
  split at g
  · cases hx; cases hy
    exact .inl ⟨_, _, rfl, rfl, k.now j (.int _) g⟩
  · cases hx; cases hy
    exact .inr (.inl ⟨_, _, rfl, rfl, g.1, k.now j (.str _) g.2⟩)
  · obtain ⟨g1, g2⟩ := g
    cases hx with | tup e l =>
    cases hy with | tup e' l' =>
    rename_i vs _ ws
    have n1 := l.length
    have n2 := l'.length
    refine .inr (.inr (.inl ⟨_, _, vs, ws, rfl, rfl, Da.sqT e, Da.sqT e', by omega, fun z => ?_, fun z => ?_, fun p ob n z => ?_⟩))
    · subst z
      cases l
      exact k.now j (.tup e' l') g2
    · subst z
      cases l'
      rw [List.append_nil] at g2
      exact k.now j (.tup e l) g2
    · exact k.new j n (da_tup z j n (l.append l')) g2
  · split at g
    · rename_i xs ys q1 q2
      obtain ⟨g1, g2⟩ := g
      obtain ⟨a1, vs, rfl, e, l⟩ := hx.nowL j q1
      obtain ⟨a2, ws, rfl, e', l'⟩ := hy.nowL j q2
      have n1 := l.length
      have n2 := l'.length
      exact .inr (.inr (.inr ⟨_, _, _, _, rfl, rfl, e, e', by omega, fun p n => k.new j n (da_lst j n (l.append l')) g2⟩))
    · exact g.elim
/-- two ints -/
def gI (C : Int → Int → Prop) (f : Int → Int → D) : G2 := fun x y μ Q => match x, y with
  | .int i, .int j => C i j ∧ Q (f i j) μ
  | _, _ => False
def gI0 (f : Int → Int → D) : G2 := fun x y μ Q => match x, y with
  | .int i, .int j => Q (f i j) μ
  | _, _ => False
theorem lf_I {C : Int → Int → Prop} {f : Int → Int → V} {f' : Int → Int → D} (h : ∀ {μ H} i j, Da K μ H (f i j) (f' i j)) : Lf2 K (rI C f) (gI C f') := @fun x y dx dy H μ Q Qd j hx hy g k => by
  unfold gI at g
  split at g
  · cases hx; cases hy
    exact ⟨_, _, rfl, rfl, g.1, k.now j (h _ _) g.2⟩
  · exact g.elim
theorem lf_I0 {f : Int → Int → V} {f' : Int → Int → D} (h : ∀ {μ H} i j, Da K μ H (f i j) (f' i j)) : Lf2 K (rI0 f) (gI0 f') := @fun x y dx dy H μ Q Qd j hx hy g k => by
  unfold gI0 at g
  split at g
  · cases hx; cases hy
    exact ⟨_, _, rfl, rfl, k.now j (h _ _) g⟩
  · exact g.elim
variable {a b : Expr} {ta tb : DE} {pos : Pos}
def gSub : G2 := gI0 fun i j => .int (i - j)
def gMul : G2 := gI CMul fun i j => .int (i * j)
def gMod : G2 := gI (fun _ j => 0 < j) fun i j => .int (i % j)
def gDiv : G2 := gI CDiv fun i j => .int (i / j)
def gPow : G2 := gI CPow fun i j => .int (i ^ j.toNat)
theorem pd_sub (ha : PD X G a ta) (hb : PD X G b tb) : PD X G (.BinOp a .Sub b pos) (dOp gSub ta tb) := pd_op op_sub (lf_I0 fun _ _ => .int _) ha hb
theorem pd_mul (ha : PD X G a ta) (hb : PD X G b tb) : PD X G (.BinOp a .Mult b pos) (dOp gMul ta tb) := pd_op op_mul (lf_I fun _ _ => .int _) ha hb
theorem pd_mod (ha : PD X G a ta) (hb : PD X G b tb) : PD X G (.BinOp a .Mod b pos) (dOp gMod ta tb) := pd_op op_mod (lf_I fun _ _ => .int _) ha hb
theorem pd_div (ha : PD X G a ta) (hb : PD X G b tb) : PD X G (.BinOp a .FloorDiv b pos) (dOp gDiv ta tb) := pd_op op_fdiv (lf_I fun _ _ => .int _) ha hb
theorem pd_pow (ha : PD X G a ta) (hb : PD X G b tb) : PD X G (.BinOp a .Pow b pos) (dOp gPow ta tb) := pd_op op_pow (lf_I fun _ _ => .int _) ha hb
def gNeg : D → Mu → DQ → Prop := fun x μ Q => match x with
  | .int i => Q (.int (-i)) μ
  | _ => False
theorem pd_neg (ha : PD X G a ta) : PD X G (.UnaryOp .USub a pos) (dUn gNeg ta) := by
  refine pd_un un_neg (@fun x dx H μ Q Qd j hx g k => ?_) ha
  unfold gNeg at g
  split at g
  · cases hx
    exact ⟨_, rfl, k.now j (.int _) g⟩
  · exact g.elim

/-! comparisons of data -/
def rD (K : PySem.W.Frag) (C : PyData → PyData → Prop) (f : PyData → PyData → Bool) : R2 := fun x y H Q => ∃ d e, Dp K H x d ∧ Dp K H y e ∧ C d e ∧ Q (.bl (f d e)) H
def gD (C : PyData → PyData → Prop) (f : PyData → PyData → Bool) : G2 := fun x y μ Q => pur (vw μ x) = true ∧ pur (vw μ y) = true ∧ C (py (vw μ x)) (py (vw μ y)) ∧ Q (.bl (f (py (vw μ x)) (py (vw μ y)))) μ
theorem lf_D {C : PyData → PyData → Prop} {f : PyData → PyData → Bool} : Lf2 K (rD K C f) (gD C f) := @fun x y dx dy H μ Q Qd j hx hy g k =>
  ⟨_, _, hx.vdp j g.1, hy.vdp j g.2.1, g.2.2.1, k.now j (.bl _) g.2.2.2⟩
def CEq (d e : PyData) : Prop := d.plain = true ∧ e.plain = true ∧ e.depth ≤ 64
def CLt (d e : PyData) : Prop := PySem.W.alike d e = true ∧ d ≠ .none ∧ e.depth ≤ 64
theorem op_eqq (hu : X.A.units + 64 < cLine) : OpR X (compareOp .Eq) (rD X.K CEq PyData.eqv) := by
  intro pins s σ H x y v u Q I rx ry h
  obtain ⟨d, e, hd, he, ⟨c1, c2, c3⟩, q⟩ := h
  obtain ⟨as, r1⟩ := Dp.reads I d x v hd rx
  obtain ⟨bs, r2⟩ := Dp.reads I e y u he ry
  exact PySem.SeqAt.eq_plain r1 r2 c1 c2 (by omega) ⟨.bl _, H, I, rfl, q⟩
theorem op_neq (hu : X.A.units + 64 < cLine) : OpR X (compareOp .NotEq) (rD X.K CEq fun d e => !PyData.eqv d e) := by
  intro pins s σ H x y v u Q I rx ry h
  obtain ⟨d, e, hd, he, ⟨c1, c2, c3⟩, q⟩ := h
  obtain ⟨as, r1⟩ := Dp.reads I d x v hd rx
  obtain ⟨bs, r2⟩ := Dp.reads I e y u he ry
  exact PySem.SeqAt.ne_plain r1 r2 c1 c2 (by omega) ⟨.bl _, H, I, rfl, q⟩
theorem op_ltq (hu : X.A.units + 64 < cLine) : OpR X (compareOp .Lt) (rD X.K CLt PySem.W.dataLt) := by
  intro pins s σ H x y v u Q I rx ry h
  obtain ⟨d, e, hd, he, ⟨c1, c2, c3⟩, q⟩ := h
  obtain ⟨as, r1⟩ := Dp.reads I d x v hd rx
  obtain ⟨bs, r2⟩ := Dp.reads I e y u he ry
  exact PySem.W.lt_data r1 r2 c1 c2 (by omega) ⟨.bl _, H, I, rfl, q⟩
theorem op_gtq (hu : X.A.units + 64 < cLine) : OpR X (compareOp .Gt) (rD X.K CLt fun d e => PySem.W.dataLt e d) := by
  intro pins s σ H x y v u Q I rx ry h
  obtain ⟨d, e, hd, he, ⟨c1, c2, c3⟩, q⟩ := h
  obtain ⟨as, r1⟩ := Dp.reads I d x v hd rx
  obtain ⟨bs, r2⟩ := Dp.reads I e y u he ry
  exact PySem.W.gt_data r1 r2 c1 c2 (by omega) ⟨.bl _, H, I, rfl, q⟩
theorem op_leq (hu : X.A.units + 64 < cLine) : OpR X (compareOp .LtE) (rD X.K CLt fun d e => !PySem.W.dataLt e d) := by
  intro pins s σ H x y v u Q I rx ry h
  obtain ⟨d, e, hd, he, ⟨c1, c2, c3⟩, q⟩ := h
  obtain ⟨as, r1⟩ := Dp.reads I d x v hd rx
  obtain ⟨bs, r2⟩ := Dp.reads I e y u he ry
  exact PySem.W.le_data r1 r2 c1 c2 (by omega) ⟨.bl _, H, I, rfl, q⟩
theorem op_geq (hu : X.A.units + 64 < cLine) : OpR X (compareOp .GtE) (rD X.K CLt fun d e => !PySem.W.dataLt d e) := by
  intro pins s σ H x y v u Q I rx ry h
  obtain ⟨d, e, hd, he, ⟨c1, c2, c3⟩, q⟩ := h
  obtain ⟨as, r1⟩ := Dp.reads I d x v hd rx
  obtain ⟨bs, r2⟩ := Dp.reads I e y u he ry
  exact PySem.W.ge_data r1 r2 c1 c2 (by omega) ⟨.bl _, H, I, rfl, q⟩
def gEq : G2 := gD CEq PyData.eqv
def gNe : G2 := gD CEq fun d e => !PyData.eqv d e
def gLt : G2 := gD CLt PySem.W.dataLt
def gGt : G2 := gD CLt fun d e => PySem.W.dataLt e d
def gLe : G2 := gD CLt fun d e => !PySem.W.dataLt e d
def gGe : G2 := gD CLt fun d e => !PySem.W.dataLt d e
section
variable {k : Nat}
theorem pd_eq (hr : Room k X.A) (ha : PD X G a ta) (hb : PD X G b tb) : PD X G (.Compare a [.Eq] [b] pos) (dOp gEq ta tb) := pd_cmp (op_eqq hr.units) lf_D ha hb (nomark _)
theorem pd_ne (hr : Room k X.A) (ha : PD X G a ta) (hb : PD X G b tb) : PD X G (.Compare a [.NotEq] [b] pos) (dOp gNe ta tb) := pd_cmp (op_neq hr.units) lf_D ha hb (nomark _)
theorem pd_lt (hr : Room k X.A) (ha : PD X G a ta) (hb : PD X G b tb) : PD X G (.Compare a [.Lt] [b] pos) (dOp gLt ta tb) := pd_cmp (op_ltq hr.units) lf_D ha hb (nomark _)
theorem pd_gt (hr : Room k X.A) (ha : PD X G a ta) (hb : PD X G b tb) : PD X G (.Compare a [.Gt] [b] pos) (dOp gGt ta tb) := pd_cmp (op_gtq hr.units) lf_D ha hb (nomark _)
theorem pd_le (hr : Room k X.A) (ha : PD X G a ta) (hb : PD X G b tb) : PD X G (.Compare a [.LtE] [b] pos) (dOp gLe ta tb) := pd_cmp (op_leq hr.units) lf_D ha hb (nomark _)
theorem pd_ge (hr : Room k X.A) (ha : PD X G a ta) (hb : PD X G b tb) : PD X G (.Compare a [.GtE] [b] pos) (dOp gGe ta tb) := pd_cmp (op_geq hr.units) lf_D ha hb (nomark _)
theorem pt_eq (hr : Room k X.A) (ha : PD X G a ta) (hb : PD X G b tb) : PDT X G (.Compare a [.Eq] [b] pos) (dB (dOp gEq ta tb)) := pt_c (op_eqq hr.units) lf_D ha hb (nomark _)
theorem pt_ne (hr : Room k X.A) (ha : PD X G a ta) (hb : PD X G b tb) : PDT X G (.Compare a [.NotEq] [b] pos) (dB (dOp gNe ta tb)) := pt_c (op_neq hr.units) lf_D ha hb (nomark _)
theorem pt_lt (hr : Room k X.A) (ha : PD X G a ta) (hb : PD X G b tb) : PDT X G (.Compare a [.Lt] [b] pos) (dB (dOp gLt ta tb)) := pt_c (op_ltq hr.units) lf_D ha hb (nomark _)
theorem pt_gt (hr : Room k X.A) (ha : PD X G a ta) (hb : PD X G b tb) : PDT X G (.Compare a [.Gt] [b] pos) (dB (dOp gGt ta tb)) := pt_c (op_gtq hr.units) lf_D ha hb (nomark _)
theorem pt_le (hr : Room k X.A) (ha : PD X G a ta) (hb : PD X G b tb) : PDT X G (.Compare a [.LtE] [b] pos) (dB (dOp gLe ta tb)) := pt_c (op_leq hr.units) lf_D ha hb (nomark _)
theorem pt_ge (hr : Room k X.A) (ha : PD X G a ta) (hb : PD X G b tb) : PDT X G (.Compare a [.GtE] [b] pos) (dB (dOp gGe ta tb)) := pt_c (op_geq hr.units) lf_D ha hb (nomark _)
end
/-! is True, is None -/
def gIs : G2 := fun x y μ Q => match x, y with
  | .bl a, .bl b => Q (.bl (decide (a = b))) μ
  | _, _ => False
theorem pd_isB (ha : PD X G a ta) (hb : PD X G b tb) : PD X G (.Compare a [.Is] [b] pos) (dOp gIs ta tb) := by
  refine pd_cmp op_isBl (@fun x y dx dy H μ Q Qd j hx hy g k => ?_) ha hb (nomark _)
  unfold gIs at g
  split at g
  · cases hx; cases hy
    exact ⟨_, _, rfl, rfl, k.now j (.bl _) g⟩
  · exact g.elim
def isNon : D → Bool
  | .non => true
  | _ => false
theorem isNon_eq {μ : Mu} {H : Hp} {v : V} {d : D} (h : Da K μ H v d) : decide (v = .non) = isNon d := by
  cases h <;> simp [isNon]
def gIsN : G2 := fun x y μ Q => match y with
  | .non => Q (.bl (isNon x)) μ
  | _ => False
def gNotN : G2 := fun x y μ Q => match y with
  | .non => Q (.bl (!isNon x)) μ
  | _ => False
theorem lf_isN : Lf2 K (fun x y H Q => y = .non ∧ Q (.bl (decide (x = .non))) H) gIsN := @fun x y dx dy H μ Q Qd j hx hy g k => by
  unfold gIsN at g
  split at g
  · cases hy
    exact ⟨rfl, by rw [isNon_eq hx]; exact k.now j (.bl _) g⟩
  · exact g.elim
theorem lf_notN : Lf2 K (fun x y H Q => y = .non ∧ Q (.bl (!decide (x = .non))) H) gNotN := @fun x y dx dy H μ Q Qd j hx hy g k => by
  unfold gNotN at g
  split at g
  · cases hy
    exact ⟨rfl, by rw [isNon_eq hx]; exact k.now j (.bl _) g⟩
  · exact g.elim
theorem pd_isN (ha : PD X G a ta) (hb : PD X G b tb) : PD X G (.Compare a [.Is] [b] pos) (dOp gIsN ta tb) := pd_cmp op_isN lf_isN ha hb (nomark _)
theorem pd_notN (ha : PD X G a ta) (hb : PD X G b tb) : PD X G (.Compare a [.IsNot] [b] pos) (dOp gNotN ta tb) := pd_cmp op_notN lf_notN ha hb (nomark _)
theorem pt_isN (ha : PD X G a ta) (hb : PD X G b tb) : PDT X G (.Compare a [.Is] [b] pos) (dB (dOp gIsN ta tb)) := pt_c op_isN lf_isN ha hb (nomark _)
theorem pt_notN (ha : PD X G a ta) (hb : PD X G b tb) : PDT X G (.Compare a [.IsNot] [b] pos) (dB (dOp gNotN ta tb)) := pt_c op_notN lf_notN ha hb (nomark _)

/-! subscripts -/
theorem DaL.atI {μ : Mu} {H : Hp} {vs : List V} {ds : List D} {i : Int} {d : D} (l : DaL K μ H vs ds) (h : L2.atI ds i = some d) : ∃ v, L2.atI vs i = some v ∧ Da K μ H v d := by
  unfold L2.atI at h ⊢
  rw [l.length]
  cases q : ixN ds.length i with
  | none => rw [q] at h; cases h
  | some n =>
    rw [q] at h
    exact l.get (i := n) h
def gIx : G2 := fun x y μ Q => match vw μ x, y with
  | .lst xs, .int i => match L2.atI xs i with
    | some d => Q d μ
    | none => False
  | .sq xs, .int i => match L2.atI xs i with
    | some d => Q d μ
    | none => False
  | .tup xs, .int i => match L2.atI xs i with
    | some d => Q d μ
    | none => False
  | .str z, .int i => z.length ≤ sizeLine ∧ match L2.atI z.cps.toList i with
    | some c => Q (.str ⟨#[c]⟩) μ
    | none => False
  | _, _ => False
/-- a list as it stands now, kept apart or among the things that change -/
theorem lf_ix : Lf2 K (rIx K) gIx := @fun x y dx dy H μ Q Qd j hx hy g k => by
  unfold gIx at g
  split at g
  · rename_i xs i e
    obtain ⟨a, vs, rfl, ea, l⟩ := hx.nowL j e
    cases hy
    split at g
    · rename_i d q
      obtain ⟨v, e1, h1⟩ := l.atI q
      exact .inl ⟨a, vs, i, v, rfl, rfl, SqL.of ea, e1, k.now j h1 g⟩
    · exact g.elim
  · rename_i xs i e
    obtain ⟨a, vs, rfl, ea, l⟩ := hx.nowS j e
    cases hy
    split at g
    · rename_i d q
      obtain ⟨v, e1, h1⟩ := l.atI q
      exact .inl ⟨a, vs, i, v, rfl, rfl, ea, e1, k.now j h1 g⟩
    · exact g.elim
  · rename_i xs i e
    obtain ⟨a, vs, rfl, ea, l⟩ := hx.nowT j e
    cases hy
    split at g
    · rename_i d q
      obtain ⟨v, e1, h1⟩ := l.atI q
      exact .inr (.inl ⟨a, vs, i, v, rfl, rfl, ea, e1, k.now j h1 g⟩)
    · exact g.elim
  · rename_i z i e
    have ez := hx.nowStr e
    subst ez
    cases hy
    obtain ⟨g0, g⟩ := g
    split at g
    · rename_i c q
      exact .inr (.inr ⟨z, i, c, rfl, rfl, g0, q, k.now j (.str _) g⟩)
    · exact g.elim
  · exact g.elim
theorem pd_at (ha : PD X G a ta) (hb : PD X G b tb) (hs : PlainIx b := by exact fun _ _ => rfl) : PD X G (.Subscript a b pos) (dOp gIx ta tb) := pd_ix ix_seq lf_ix ha hb hs
end
end Dl

namespace Dl
open PySem PySem.Spec PyProof.Rows L2
/-! ### slices -/
abbrev DO := Ro → Mu → (Option Int → Mu → Prop) → Prop
structure PDO (X : Cx) (G : Gh) (e : Option Expr) (t : DO) : Prop where
  ex : ∃ te, PO X e te ∧ ∀ {σ : L2.St} {H : Hp} {ρ : Ro} {μ : Mu} {Q : Option Int → Hp → Prop} {Qd : Option Int → Mu → Prop}, Okd X.K G μ H σ ρ → t ρ μ Qd →
    (∀ o H' μ', Gr μ H μ' H' → J X.K μ' H' → Qd o μ' → Q o H') → te σ H Q
def dNo : DO := fun _ μ Q => Q none μ
def dSome (t : DE) : DO := fun ρ μ Q => t ρ μ fun x μ1 => match x with
  | .int i => Q (some i) μ1
  | _ => False
def cutD (xs : List D) (lo hi : Option Int) : List D := (xs.drop (HT.sIx xs.length 0 lo)).take (HT.sIx xs.length xs.length hi - HT.sIx xs.length 0 lo)
section
variable {X : Cx} {G : Gh} {K : PySem.W.Frag} {a b e o : Expr} {es : List Expr} {ta tb te : DE} {tA : DA} {pos p p1 p2 p3 : Pos} {lo hi : Option Expr} {tl th : DO}
theorem pdo_none : PDO X G none dNo := ⟨_, po_none, @fun σ H ρ μ Q Qd o t k => k _ _ _ Gr.refl o.j t⟩
theorem pdo_some (h : PD X G e te) : PDO X G (some e) (dSome te) := by
  obtain ⟨ea, pa, fa⟩ := h.ex
  refine ⟨_, po_some pa, @fun σ H ρ μ Q Qd o t k => ?_⟩
  refine fa o t fun x dx H1 μ1 g1 j1 h1 t1 => ?_
  match dx, h1, t1 with
  | .int i, .int _, t1 => exact ⟨i, rfl, k _ _ _ g1 j1 t1⟩
theorem DaL.cut {μ : Mu} {H : Hp} {vs : List V} {ds : List D} (l : DaL K μ H vs ds) (lo hi : Option Int) : DaL K μ H (cutV vs lo hi) (cutD ds lo hi) := by
  unfold cutV cutD
  rw [l.length]
  exact (l.drop _).take _
theorem cutD_whole {xs : List D} {lo hi : Option Int} (h : HT.sIx xs.length 0 lo = 0 ∧ HT.sIx xs.length xs.length hi = xs.length) : cutD xs lo hi = xs := by
  unfold cutD
  rw [h.1, h.2]
  simp
def gSl : D → Option Int → Option Int → Mu → DQ → Prop := fun x l u μ Q => match vw μ x with
  | .lst xs => Q (.lst (cutD xs l u)) μ
  | .sq xs => Q (.lst (cutD xs l u)) μ
  | .tup xs => Q (.tup (cutD xs l u)) μ
  | .str z => z.length ≤ sizeLine ∧ Q (.str (cutS z l u)) μ
  | _ => False
def dSl (te : DE) (tl th : DO) : DE := fun ρ μ Q => te ρ μ fun x μ1 => tl ρ μ1 fun l μ2 => th ρ μ2 fun u μ3 => gSl x l u μ3 Q
theorem pd_slice (he : PD X G e te) (hl : PDO X G lo tl) (hh : PDO X G hi th) : PD X G (.Subscript e (.Slice lo hi none p2) pos) (dSl te tl th) := by
  obtain ⟨ee, pe, fe⟩ := he.ex
  obtain ⟨el, pl, fl⟩ := hl.ex
  obtain ⟨eh, ph, fh⟩ := hh.ex
  refine ⟨_, pe_slice (sl_list.or (sl_tupF.or sl_str)) pe pl ph, @fun σ H ρ μ Q Qd o t k => ?_⟩
  refine fe o t fun x dx H1 μ1 g1 j1 h1 t1 => ?_
  have o1 := o.grow g1 j1
  refine fl o1 t1 fun l H2 μ2 g2 j2 t2 => ?_
  have o2 := o1.grow g2 j2
  refine fh o2 t2 fun u H3 μ3 g3 j3 t3 => ?_
  have hx : Da X.K μ3 H3 x dx := (h1.grow g2).grow g3
  have k3 := ((k.after g1).after g2).after g3
  unfold gSl at t3
  split at t3
  · rename_i xs q
    obtain ⟨a, vs, rfl, ea, l⟩ := hx.nowL j3 q
    exact .inl ⟨a, vs, rfl, SqL.of ea, fun p n => k3.new j3 n (da_lst j3 n (l.cut _ _)) t3⟩
  · rename_i xs q
    obtain ⟨a, vs, rfl, ea, l⟩ := hx.nowS j3 q
    exact .inl ⟨a, vs, rfl, ea, fun p n => k3.new j3 n (da_lst j3 n (l.cut _ _)) t3⟩
  · rename_i xs q
    cases hx with
    | tup e' l =>
      simp only [vw] at q
      cases q
      refine .inr (.inl ⟨_, _, rfl, Da.sqT e', fun z => ?_, fun p ob n z => k3.new j3 n (da_tup z j3 n (l.cut _ _)) t3⟩)
      rw [l.length] at z
      rw [cutD_whole z] at t3
      exact k3.now j3 (.tup e' l) t3
    | ref a =>
      simp only [vw] at q
      split at q <;> cases q
    | _ => simp [vw] at q
  · rename_i z q
    have ez := hx.nowStr q
    subst ez
    exact .inr (.inr ⟨z, rfl, t3.1, k3.now j3 (.str _) t3.2⟩)
  · exact t3.elim
/-- xs[::-1] -/
def gRev : D → Mu → DQ → Prop := fun x μ Q => match vw μ x with
  | .lst xs => Q (.lst xs.reverse) μ
  | .sq xs => Q (.lst xs.reverse) μ
  | .tup xs => Q (.tup xs.reverse) μ
  | _ => False
/-- the new list will be changed -/
def gRevM : D → Mu → DQ → Prop := fun x μ Q => match vw μ x with
  | .lst xs => ∀ p, μ p = none → Q (.ref p) (mup μ p (.lst xs.reverse))
  | _ => False
theorem pd_rev {k : Nat} (he : PD X G e te) : PD X G (.Subscript e (.Slice none none (some (.UnaryOp .USub (.Constant (.int 1) k p1) p2)) p3) pos) (dUn gRev te) := by
  obtain ⟨ee, pe, fe⟩ := he.ex
  refine ⟨_, pe_rev pe, @fun σ H ρ μ Q Qd o t k => fe o t fun x dx H1 μ1 g1 j1 h1 t1 => ?_⟩
  have k1 := k.after g1
  unfold gRev at t1
  split at t1
  · rename_i xs q
    obtain ⟨a, vs, rfl, ea, l⟩ := h1.nowL j1 q
    exact .inl ⟨a, vs, rfl, SqL.of ea, fun p n => k1.new j1 n (da_lst j1 n l.rev) t1⟩
  · rename_i xs q
    obtain ⟨a, vs, rfl, ea, l⟩ := h1.nowS j1 q
    exact .inl ⟨a, vs, rfl, ea, fun p n => k1.new j1 n (da_lst j1 n l.rev) t1⟩
  · rename_i xs q
    obtain ⟨a, vs, rfl, ea, l⟩ := h1.nowT j1 q
    exact .inr ⟨a, vs, rfl, ea, fun p ob n z => k1.new j1 n (da_tup z j1 n l.rev) t1⟩
  · exact t1.elim
theorem pd_revM {k : Nat} (he : PD X G e te) : PD X G (.Subscript e (.Slice none none (some (.UnaryOp .USub (.Constant (.int 1) k p1) p2)) p3) pos) (dUn gRevM te) := by
  obtain ⟨ee, pe, fe⟩ := he.ex
  refine ⟨_, pe_rev pe, @fun σ H ρ μ Q Qd o t k => fe o t fun x dx H1 μ1 g1 j1 h1 t1 => ?_⟩
  have k1 := k.after g1
  unfold gRevM at t1
  split at t1
  · rename_i xs q
    obtain ⟨a, vs, rfl, ea, l⟩ := h1.nowL j1 q
    exact .inl ⟨a, vs, rfl, SqL.of ea, fun p n => k1 _ _ _ _ (Gr.born n) (j1.born (u := .lst xs.reverse) n ⟨_, upd_same, l.rev.grow (Gr.born n)⟩) (.ref p) (t1 p (j1.free n))⟩
  · exact t1.elim

/-! ### built-ins on data -/
theorem DaL.one {μ : Mu} {H : Hp} {vs : List V} {d : D} (l : DaL K μ H vs [d]) : ∃ v, vs = [v] ∧ Da K μ H v d := by
  cases l with | cons h t => cases t; exact ⟨_, rfl, h⟩
theorem DaL.two {μ : Mu} {H : Hp} {vs : List V} {d d' : D} (l : DaL K μ H vs [d, d']) : ∃ v v', vs = [v, v'] ∧ Da K μ H v d ∧ Da K μ H v' d' := by
  cases l with | cons h t => cases t with | cons h' t' => cases t'; exact ⟨_, _, rfl, h, h'⟩
def gLen : List D → Mu → DQ → Prop := fun ds μ Q => match ds with
  | [d] => match vw μ d with
    | .lst xs => Q (.int xs.length) μ
    | .sq xs => Q (.int xs.length) μ
    | .tup xs => Q (.int xs.length) μ
    | .str z => z.length ≤ sizeLine ∧ Q (.int z.length) μ
    | _ => False
  | _ => False
theorem lf_len : LfL K (fun xs H Q => ∃ x n, xs = [x] ∧ LenV K x H n ∧ Q (.int n) H) gLen := @fun xs ds H μ Q Qd j h g k => by
  unfold gLen at g
  split at g
  · rename_i d
    obtain ⟨v, rfl, hv⟩ := h.one
    split at g
    · rename_i xs q
      obtain ⟨a, vs, rfl, ea, l⟩ := hv.nowL j q
      exact ⟨_, xs.length, rfl, .inl ⟨vs, SqL.of ea, l.length.symm⟩, k.now j (.int _) g⟩
    · rename_i xs q
      obtain ⟨a, vs, rfl, ea, l⟩ := hv.nowS j q
      exact ⟨_, xs.length, rfl, .inl ⟨vs, ea, l.length.symm⟩, k.now j (.int _) g⟩
    · rename_i xs q
      obtain ⟨a, vs, rfl, ea, l⟩ := hv.nowT j q
      exact ⟨_, xs.length, rfl, .inr ⟨vs, ea, l.length.symm⟩, k.now j (.int _) g⟩
    · rename_i z q
      have ez := hv.nowStr q
      subst ez
      exact ⟨_, z.length, rfl, ⟨g.1, rfl⟩, k.now j (.int _) g.2⟩
    · exact g.elim
  · exact g.elim
theorem pd_len (hm : X.mg "len" = none) (ha : PD X G a ta) (hg : Gl X "len" := by rfl) (hs : starEach [a] X.env = (false, eval a X.env) :: starEach [] X.env := by rfl) : PD X G (.Call (.Name "len" p) [a] [] pos) (dCB gLen (dCons ta dNil)) :=
  pd_b call_len lf_len hm PySem.boot_len (pda_cons ha pda_nil hs) hg (by decide) (by decide) hs rfl
/-- a row of items as it stands -/
theorem Da.row {μ : Mu} {H : Hp} {v : V} {d : D} (j : J K μ H) (h : Da K μ H v d) : ∀ {xs : List D}, vw μ d = .lst xs ∨ vw μ d = .sq xs ∨ vw μ d = .tup xs → ∃ a vs, v = .ref a ∧ (SqL K H a vs ∨ SqT K H a vs) ∧ DaL K μ H vs xs := by
  rintro xs (q | q | q)
  · obtain ⟨a, vs, e, ea, l⟩ := h.nowL j q; exact ⟨a, vs, e, .inl (SqL.of ea), l⟩
  · obtain ⟨a, vs, e, ea, l⟩ := h.nowS j q; exact ⟨a, vs, e, .inl ea, l⟩
  · obtain ⟨a, vs, e, ea, l⟩ := h.nowT j q; exact ⟨a, vs, e, .inr ea, l⟩
def rowOf (μ : Mu) (d : D) : Option (List D) := match vw μ d with
  | .lst xs => some xs
  | .sq xs => some xs
  | .tup xs => some xs
  | _ => none
theorem row_of {μ : Mu} {d : D} {xs : List D} (h : rowOf μ d = some xs) : vw μ d = .lst xs ∨ vw μ d = .sq xs ∨ vw μ d = .tup xs := by
  unfold rowOf at h
  split at h <;> cases h
  · rename_i q; exact .inl q
  · rename_i q; exact .inr (.inl q)
  · rename_i q; exact .inr (.inr q)
def gList : List D → Mu → DQ → Prop := fun ds μ Q => match ds with
  | [d] => match rowOf μ d with
    | some xs => Q (.lst xs) μ
    | none => False
  | _ => False
theorem pd_list (hm : X.mg "list" = none) (hv : bootBuiltins "list" = some (.type "list")) (ha : PD X G a ta) (hg : Gl X "list" := by rfl) (hs : starEach [a] X.env = (false, eval a X.env) :: starEach [] X.env := by rfl) : PD X G (.Call (.Name "list" p) [a] [] pos) (dCB gList (dCons ta dNil)) := by
  refine pd_ty call_list_of (@fun xs ds H μ Q Qd j h g k => ?_) hm hv (pda_cons ha pda_nil hs) hg (by decide) (by decide) hs rfl
  unfold gList at g
  split at g
  · obtain ⟨v, rfl, hv⟩ := h.one
    split at g
    · rename_i xs q
      obtain ⟨a, vs, rfl, ea, l⟩ := hv.row j (row_of q)
      exact ⟨a, vs, rfl, ea, fun p n => k.new j n (da_lst j n l) g⟩
    · exact g.elim
  · exact g.elim
def gMax2 : List D → Mu → DQ → Prop := fun ds μ Q => match ds with
  | [.int i, .int j] => Q (.int (if j > i then j else i)) μ
  | _ => False
theorem pd_max2 (hc : X.calm = true) (hm : X.mg "max" = none) (hv : bootBuiltins "max" = some (.builtin "max")) (ha : PDA X G (e :: es) tA) (hg : Gl X "max" := by rfl) (he : starEach (e :: es) X.env = (false, eval e X.env) :: starEach es X.env := by rfl)
    (hpl : (backTo pos (starEach es X.env)).any (·.1) = false := by rfl) : PD X G (.Call (.Name "max" p) (e :: es) [] pos) (dCB gMax2 tA) := by
  refine pd_b (call_max2 hc) (@fun xs ds H μ Q Qd j h g k => ?_) hm hv ha hg (by decide) (by decide) he hpl
  unfold gMax2 at g
  split at g
  · obtain ⟨v, v', rfl, h1, h2⟩ := h.two
    cases h1; cases h2
    exact ⟨_, _, rfl, k.now j (.int _) g⟩
  · exact g.elim
/-- repr of data, where no repr is under way -/
theorem call_reprD {k : Nat} (hr : Room k X.A) (hgu : X.A.guards = some []) : CallR X (.builtin "repr") (fun xs H Q => ∃ x d, xs = [x] ∧ Dp X.K H x d ∧ d.plain = true ∧ d.showable = true ∧ d.hasDict = false ∧ d.depth ≤ 64 ∧ d.shown.length ≤ sizeLine ∧ (∃ a, x = .ref a) ∧ Q (.str d.shown) H) := by
  intro pins s σ H xs us Q I r h
  obtain ⟨x, d, rfl, hd, hp, hs, hn, hz, hl, ⟨a, rfl⟩, q⟩ := h
  cases r with | cons rx rr =>
  cases rr
  cases rx
  obtain ⟨as, rd⟩ := Dp.reads I d _ _ hd rfl
  have hu := hr.un
  refine repr_of_reads' (h₀ := s.heap) rd hs (PyData.noDict_hsm hn) hgu (by omega) (fun _ _ e => e) (fun h' u tk kk => ?_) hl
  exact ⟨.str d.shown, H, I.kept kk, ⟨u, rfl⟩, q⟩
end
end Dl

namespace Dl
open PySem PySem.Spec PyProof.Rows L2
section
variable {X : Cx} {G : Gh} {K : PySem.W.Frag} {a b e o : Expr} {es : List Expr} {ta tb te to : DE} {tA : DA} {pos p apos : Pos}
/-! ### repr -/
mutual
theorem py_noDict : ∀ d : D, (py d).hasDict = false
  | .non => by simp only [py, PyData.hasDict]
  | .bl b => by simp only [py, PyData.hasDict]
  | .int i => by simp only [py, PyData.hasDict]
  | .str x => by simp only [py, PyData.hasDict]
  | .ty _ => by simp only [py, PyData.hasDict]
  | .ref _ => by simp only [py, PyData.hasDict]
  | .lst xs => by simp only [py, PyData.hasDict]; exact pyL_noDict xs
  | .sq xs => by simp only [py, PyData.hasDict]; exact pyL_noDict xs
  | .tup xs => by simp only [py, PyData.hasDict]; exact pyL_noDict xs
  | .obj _ _ => by simp only [py, PyData.hasDict]
  | .dK _ => by simp only [py, PyData.hasDict]
  | .dN _ _ => by simp only [py, PyData.hasDict]
  | .set _ _ => by simp only [py, PyData.hasDict]
theorem pyL_noDict : ∀ ds : List D, PyData.hasDictAll (pyL ds) = false
  | [] => by simp only [pyL, PyData.hasDictAll]
  | x :: xs => by simp only [pyL, PyData.hasDictAll, py_noDict x, pyL_noDict xs, Bool.or_self]
end
/-- what repr asks of data, and its text -/
def Shows (d : D) : Prop := pur d = true ∧ (py d).showable = true ∧ (py d).depth ≤ 64 ∧ (py d).shown.length ≤ sizeLine
def gRepr : List D → Mu → DQ → Prop := fun ds μ Q => match ds with
  | [d] => (rowOf μ d).isSome = true ∧ Shows (vw μ d) ∧ Q (.str (py (vw μ d)).shown) μ
  | _ => False
theorem pd_repr {k : Nat} (hr : Room k X.A) (hgu : X.A.guards = some []) (hm : X.mg "repr" = none) (hv : bootBuiltins "repr" = some (.builtin "repr")) (ha : PD X G a ta) (hg : Gl X "repr" := by rfl) (hs : starEach [a] X.env = (false, eval a X.env) :: starEach [] X.env := by rfl) :
    PD X G (.Call (.Name "repr" p) [a] [] pos) (dCB gRepr (dCons ta dNil)) := by
  refine pd_b (call_reprD hr hgu) (@fun xs ds H μ Q Qd j h g k => ?_) hm hv (pda_cons ha pda_nil hs) hg (by decide) (by decide) hs rfl
  unfold gRepr at g
  split at g
  · obtain ⟨v, rfl, hv⟩ := h.one
    obtain ⟨g1, ⟨g2, g3, g4, g5⟩, g6⟩ := g
    obtain ⟨xs, hx⟩ := Option.isSome_iff_exists.mp g1
    obtain ⟨a, vs, e, _, _⟩ := hv.row j (row_of hx)
    exact ⟨v, _, rfl, hv.vdp j g2, py_plain _, g3, py_noDict _, g4, g5, ⟨a, e⟩, k.now j (.str _) g6⟩
  · exact g.elim

/-! ### methods of a list that changes -/
def dM0 (g : D → Mu → DQ → Prop) (to : DE) : DE := fun ρ μ Q => to ρ μ fun x μ1 => g x μ1 Q
def dM (g : D → List D → Mu → DQ → Prop) (to : DE) (t : DA) : DE := fun ρ μ Q => to ρ μ fun x μ1 => (∃ a xs, x = .ref a ∧ μ1 a = some (.lst xs)) ∧ t ρ μ1 fun ds μ2 => g x ds μ2 Q
def gPop : D → Mu → DQ → Prop := fun x μ Q => match x with
  | .ref a => match μ a with
    | some (.lst xs) => match xs[xs.length - 1]? with
      | some d => Q d (mup μ a (.lst xs.dropLast))
      | none => False
    | _ => False
  | _ => False
def gAppend : D → List D → Mu → DQ → Prop := fun x ds μ Q => match x, ds with
  | .ref a, [d] => match μ a with
    | some (.lst xs) => xs.length < sizeLine ∧ Q .non (mup μ a (.lst (xs ++ [d])))
    | _ => False
  | _, _ => False
theorem DaL.dropLast {μ : Mu} {H : Hp} {vs : List V} {ds : List D} (l : DaL K μ H vs ds) : DaL K μ H vs.dropLast ds.dropLast := by
  rw [List.dropLast_eq_take, List.dropLast_eq_take, l.length]
  exact l.take _
theorem pd_pop (ho : PD X G o to) (hbase : attributeBase o "pop" X.env (eval o X.env) = eval o X.env := by rfl) (hline : (apos.endLine == pos.line) = true := by rfl) : PD X G (.Call (.Attribute o "pop" apos) [] [] pos) (dM0 gPop to) := by
  obtain ⟨ea, pa, fa⟩ := ho.ex
  refine ⟨_, pe_bm0 PySem.F.plainAttrs_list PySem.F.slot_list_pop PySem.F.type_list_pop mt_pop pa hbase hline, @fun σ H ρ μ Q Qd o t k => ?_⟩
  refine fa o t fun x dx H1 μ1 g1 j1 h1 t1 => ?_
  unfold gPop at t1
  split at t1
  · rename_i a
    cases h1
    split at t1
    · rename_i xs q
      obtain ⟨vs, e, l⟩ := j1 a _ q
      split at t1
      · rename_i d qd
        obtain ⟨v, ev, hv⟩ := l.get qd
        refine ⟨.inl ⟨rfl, vs, SqL.of e⟩, a, vs, v, rfl, rfl, e, by rw [l.length]; exact ev, ?_⟩
        have gg : Gr μ1 H1 (mup μ1 a (.lst xs.dropLast)) (upd H1 a (.lst vs.dropLast)) := Gr.turn q
        exact (k.after g1) _ _ _ _ gg (j1.turn q ⟨_, upd_same, l.dropLast.grow gg⟩) (hv.grow gg) t1
      · exact t1.elim
    · exact t1.elim
  · exact t1.elim
theorem pd_append (ho : PD X G o to) (ha : PDA X G (e :: es) tA) (hbase : attributeBase o "append" X.env (eval o X.env) = eval o X.env := by rfl)
    (hfew : ((backTo pos (starEach (e :: es) X.env)).all (fun x => !x.1) && (backToKw pos (keywordEach [] X.env)).all (fun x => x.1.isSome)
      && decide ((e :: es).length + ([] : List Keyword).length + (if ([] : List Keyword).isEmpty then 0 else 1) < 30)) = true := by rfl)
    (hline : (apos.endLine == pos.line) = true := by rfl) (hs : starEach (e :: es) X.env = (false, eval e X.env) :: starEach es X.env := by rfl) (hplain : (backTo pos (starEach es X.env)).any (·.1) = false := by rfl) :
    PD X G (.Call (.Attribute o "append" apos) (e :: es) [] pos) (dM gAppend to tA) := by
  obtain ⟨eo, po, fo⟩ := ho.ex
  obtain ⟨ea, pa, fa⟩ := ha.ex
  refine ⟨_, pe_bm PySem.F.plainAttrs_list PySem.F.slot_list_append PySem.F.type_list_append mt_append po pa hbase hfew hline hs hplain, @fun σ H ρ μ Q Qd o t k => ?_⟩
  refine fo o t fun x dx H1 μ1 g1 j1 h1 t1 => ?_
  obtain ⟨⟨a, xs, rfl, q⟩, t1⟩ := t1
  cases h1
  obtain ⟨vs, e, l⟩ := j1 a _ q
  refine ⟨.inl ⟨rfl, vs, SqL.of e⟩, fa (o.grow g1 j1) t1 fun us ds H2 μ2 g2 j2 h2 t2 => ?_⟩
  unfold gAppend at t2
  split at t2
  · rename_i a d ez
    cases ez
    obtain ⟨v, rfl, hv⟩ := h2.one
    split at t2
    · rename_i ys q2
      obtain ⟨ws, e2, l2⟩ := j2 a _ q2
      have gg : Gr μ2 H2 (mup μ2 a (.lst (ys ++ [d]))) (upd H2 a (.lst (ws ++ [v]))) := Gr.turn q2
      refine ⟨a, ws, v, rfl, rfl, e2, by rw [l2.length]; exact t2.1, ?_⟩
      exact ((k.after g1).after g2) _ _ _ _ gg (j2.turn q2 ⟨_, upd_same, (l2.append (.cons hv .nil)).grow gg⟩) .non t2.2
    · exact t2.elim
  · exact t2.elim
end

/-! ### statements -/
structure DEnds where
  nx : Ro → Mu → Prop
  rt : DQ
  bk : Ro → Mu → Prop := fun _ _ => False
  ct : Ro → Mu → Prop := fun _ _ => False
abbrev DS := DEnds → Ro → Mu → Prop
abbrev DG := D → Ro → Mu → (Ro → Mu → Prop) → Prop
abbrev DGs := List D → Ro → Mu → (Ro → Mu → Prop) → Prop
def KtS (K : PySem.W.Frag) (G : Gh) (μ : Mu) (H : Hp) (Q : L2.St → Hp → Prop) (Qd : Ro → Mu → Prop) : Prop := ∀ σ' H' ρ' μ', Gr μ H μ' H' → Okd K G μ' H' σ' ρ' → Qd ρ' μ' → Q σ' H'
structure EK (K : PySem.W.Frag) (G : Gh) (μ : Mu) (H : Hp) (D : Ends) (Dd : DEnds) : Prop where
  nx : KtS K G μ H D.nx Dd.nx
  rt : Kt K μ H D.rt Dd.rt
  bk : KtS K G μ H D.bk Dd.bk
  ct : KtS K G μ H D.ct Dd.ct
section
variable {K : PySem.W.Frag} {G : Gh} {μ μ1 : Mu} {H H1 : Hp}
theorem KtS.after {Q : L2.St → Hp → Prop} {Qd : Ro → Mu → Prop} (k : KtS K G μ H Q Qd) (g : Gr μ H μ1 H1) : KtS K G μ1 H1 Q Qd := fun σ' H' ρ' μ' g' o q => k σ' H' ρ' μ' (g.trans g') o q
theorem EK.after {D : Ends} {Dd : DEnds} (k : EK K G μ H D Dd) (g : Gr μ H μ1 H1) : EK K G μ1 H1 D Dd := ⟨k.nx.after g, k.rt.after g, k.bk.after g, k.ct.after g⟩
end
structure PDS (X : Cx) (G : Gh) (st : Stmt) (t : DS) : Prop where
  ex : ∃ ts, PS X st ts ∧ ∀ {σ : L2.St} {H : Hp} {ρ : Ro} {μ : Mu} {D : Ends} {Dd : DEnds}, Okd X.K G μ H σ ρ → t Dd ρ μ → EK X.K G μ H D Dd → ts D σ H
structure PDSs (X : Cx) (G : Gh) (st : List Stmt) (t : DS) : Prop where
  ex : ∃ ts, PSs X st ts ∧ ∀ {σ : L2.St} {H : Hp} {ρ : Ro} {μ : Mu} {D : Ends} {Dd : DEnds}, Okd X.K G μ H σ ρ → t Dd ρ μ → EK X.K G μ H D Dd → ts D σ H
structure PDG (X : Cx) (G : Gh) (tg : Expr) (t : DG) : Prop where
  ex : ∃ g, PG X tg g ∧ ∀ {v : V} {d : D} {σ : L2.St} {H : Hp} {ρ : Ro} {μ : Mu} {Q : L2.St → Hp → Prop} {Qd : Ro → Mu → Prop}, Okd X.K G μ H σ ρ → Da X.K μ H v d → t d ρ μ Qd → KtS X.K G μ H Q Qd → g v σ H Q
structure PDGs (X : Cx) (G : Gh) (tg : List Expr) (t : DGs) : Prop where
  ex : ∃ g, PGs X tg g ∧ ∀ {v : List V} {d : List D} {σ : L2.St} {H : Hp} {ρ : Ro} {μ : Mu} {Q : L2.St → Hp → Prop} {Qd : Ro → Mu → Prop}, Okd X.K G μ H σ ρ → DaL X.K μ H v d → t d ρ μ Qd → KtS X.K G μ H Q Qd → g v σ H Q
section
variable {X : Cx} {G : Gh} {K : PySem.W.Frag} {a b e o : Expr} {es : List Expr} {ta tb te to ti : DE} {tA : DA} {pos p apos : Pos} {st : Stmt} {sts rest : List Stmt} {t u : DS} {tT : DT}
def dSeq (t u : DS) : DS := fun D ρ μ => t { D with nx := u D } ρ μ
def dNext : DS := fun D ρ μ => D.nx ρ μ
theorem ds_nil : PDSs X G [] dNext := ⟨_, pss_nil, @fun σ H ρ μ D Dd o t k => k.nx _ _ _ _ Gr.refl o t⟩
theorem ds_one (h : PDS X G st t) : PDSs X G [st] t := by
  obtain ⟨ts, ps, f⟩ := h.ex
  exact ⟨_, pss_one ps, @fun σ H ρ μ D Dd o t k => f o t k⟩
theorem ds_cons (h1 : PDS X G st t) (h2 : PDSs X G rest u) : PDSs X G (st :: rest) (dSeq t u) := by
  obtain ⟨ts, ps, f⟩ := h1.ex
  obtain ⟨us, qs, g⟩ := h2.ex
  refine ⟨_, pss_cons ps qs, @fun σ H ρ μ D Dd o t k => f o t ⟨fun σ1 H1 ρ1 μ1 g1 o1 q1 => g o1 q1 (k.after g1), k.rt, k.bk, k.ct⟩⟩
/-- what holds between two statements is said: the ways behind the first one join -/
def dCut (t u : DS) : DS := fun D ρ μ => ∃ M : Ro → Mu → Prop, t { D with nx := M } ρ μ ∧ ∀ ρ μ, M ρ μ → u D ρ μ
theorem ds_cut (h1 : PDS X G st t) (h2 : PDSs X G rest u) : PDSs X G (st :: rest) (dCut t u) := by
  obtain ⟨ts, ps, f⟩ := h1.ex
  obtain ⟨us, qs, g⟩ := h2.ex
  refine ⟨_, pss_cons ps qs, @fun σ H ρ μ D Dd o t k => ?_⟩
  obtain ⟨M, h, hM⟩ := t
  exact f o h ⟨fun σ1 H1 ρ1 μ1 g1 o1 q1 => g o1 (hM _ _ q1) (k.after g1), k.rt, k.bk, k.ct⟩
def dDrop (te : DE) : DS := fun D ρ μ => te ρ μ fun _ μ1 => D.nx ρ μ1
theorem ds_expr (he : PD X G e te) (hs : swapsWith e none pos.line X.env = pure false := by rfl) : PDS X G (.Expr e pos) (dDrop te) := by
  obtain ⟨ea, pa, fa⟩ := he.ex
  exact ⟨_, ps_expr pa hs, @fun σ H ρ μ D Dd o t k => fa o t fun x dx H1 μ1 g1 j1 h1 t1 => k.nx _ _ _ _ g1 (o.grow g1 j1) t1⟩
def dRet (te : DE) : DS := fun D ρ μ => te ρ μ D.rt
theorem ds_ret (he : PD X G e te) : PDS X G (.Return (some e) pos) (dRet te) := by
  obtain ⟨ea, pa, fa⟩ := he.ex
  exact ⟨_, ps_ret pa, @fun σ H ρ μ D Dd o t k => fa o t k.rt⟩
def dIf (c : DT) (t u : DS) : DS := fun D ρ μ => c ρ μ fun b μ1 => if b = true then t D ρ μ1 else u D ρ μ1
theorem ds_if {c : Expr} {x y : List Stmt} (hc : PDT X G c tT) (ha : PDSs X G x t) (hb : PDSs X G y u) : PDS X G (.If c x y pos) (dIf tT t u) := by
  obtain ⟨ec, pc, fc⟩ := hc.ex
  obtain ⟨ea, pa, fa⟩ := ha.ex
  obtain ⟨eb, pb, fb⟩ := hb.ex
  refine ⟨_, ps_if pc pa pb, @fun σ H ρ μ D Dd o t k => fc o t fun c H1 μ1 g1 j1 t1 => ?_⟩
  cases c with
  | true => exact iteT (fa (o.grow g1 j1) (by simpa using t1) (k.after g1))
  | false => exact iteF (fb (o.grow g1 j1) (by simpa using t1) (k.after g1))
/-! targets -/
def dName (i : Nat) : DG := fun d ρ μ Q => Q (ρ.set i (some d)) μ
theorem dg_name {i : Nat} {x : Str} (hN : X.N.Nodup) (hi : X.N[i]? = some x := by rfl) (hx : Loc X.env.scope x := by first | exact .inl rfl | exact .inr rfl) (hf : X.fn x = true ∨ X.env.scope.names.lookup x = some .local := by first | exact .inl rfl | exact .inr rfl | assumption) : PDG X G (.Name x pos) (dName i) :=
  ⟨_, pg_name hN hi hx hf, @fun v d σ H ρ μ Q Qd o h t k => k _ _ _ _ Gr.refl (o.set i h) t⟩
def dGNil : DGs := fun ds ρ μ Q => match ds with
  | [] => Q ρ μ
  | _ => False
def dGCons (t : DG) (u : DGs) : DGs := fun ds ρ μ Q => match ds with
  | d :: r => t d ρ μ fun ρ' μ' => u r ρ' μ' Q
  | _ => False
theorem dgs_nil : PDGs X G [] dGNil := by
  refine ⟨_, pgs_nil, @fun v d σ H ρ μ Q Qd o h t k => ?_⟩
  cases h with
  | nil => exact ⟨rfl, k _ _ _ _ Gr.refl o t⟩
  | cons _ _ => exact t.elim
theorem dgs_cons {tg : DG} {ug : DGs} (h1 : PDG X G e tg) (h2 : PDGs X G es ug) (hs : (assignEach (e :: es) X.env).map (·.2) = assign e X.env :: (assignEach es X.env).map (·.2) := by rfl) : PDGs X G (e :: es) (dGCons tg ug) := by
  obtain ⟨g1, p1, f1⟩ := h1.ex
  obtain ⟨g2, p2, f2⟩ := h2.ex
  refine ⟨_, pgs_cons p1 p2 hs, @fun v d σ H ρ μ Q Qd o h t k => ?_⟩
  cases h with
  | nil => exact t.elim
  | cons h l => exact ⟨_, _, rfl, f1 o h t fun σ1 H1 ρ1 μ1 gr1 o1 q1 => f2 o1 (l.grow gr1) q1 (k.after gr1)⟩
def dGTup (n : Nat) (t : DGs) : DG := fun d ρ μ Q => match d with
  | .tup ds => ds.length = n ∧ t ds ρ μ Q
  | _ => False
theorem dg_tup {k : Nat} {tg : DGs} (hc : X.calm = true) (h : PDGs X G es tg) (hn : (assignEach es X.env).length = es.length := by rfl) (hst : (assignEach es X.env).findIdx? (·.1) = none := by rfl) : PDG X G (.Tuple es k pos) (dGTup es.length tg) := by
  obtain ⟨g1, p1, f1⟩ := h.ex
  refine ⟨_, pg_tup hc p1 hn hst, @fun v d σ H ρ μ Q Qd o h t k => ?_⟩
  unfold dGTup at t
  split at t
  · cases h with | tup e l =>
    exact ⟨_, _, rfl, Da.sqT e, l.length.trans t.1, f1 o l t.2 k⟩
  · exact t.elim
def dAsg (te : DE) (g : DG) : DS := fun D ρ μ => te ρ μ fun x μ1 => g x ρ μ1 D.nx
theorem ds_asg {tg : Expr} {g : DG} (he : PD X G e te) (hg : PDG X G tg g) (hs : swapsWithSole [tg] e pos.line X.env = pure false := by rfl) (hw : swappedStores [tg] e X.env = pure none := by rfl)
    (h1 : (assignEach [tg] X.env).map (·.2) = [assign tg X.env] := by rfl) : PDS X G (.Assign [tg] e pos) (dAsg te g) := by
  obtain ⟨ea, pa, fa⟩ := he.ex
  obtain ⟨gg, pg, fg⟩ := hg.ex
  exact ⟨_, ps_asg pa pg hs hw h1, @fun σ H ρ μ D Dd o t k => fa o t fun x dx H1 μ1 g1 j1 h1 t1 => fg (o.grow g1 j1) h1 t1 (k.nx.after g1)⟩
theorem ds_set {i : Nat} {x : Str} {pos' : Pos} (hN : X.N.Nodup) (he : PD X G e te) (hi : X.N[i]? = some x := by rfl) (hx : Loc X.env.scope x := by first | exact .inl rfl | exact .inr rfl) (hs : swapsWith e (some (.Name x pos')) pos.line X.env = pure false := by rfl)
    (hf : X.fn x = true ∨ X.env.scope.names.lookup x = some .local := by first | exact .inl rfl | exact .inr rfl | assumption) : PDS X G (.Assign [.Name x pos'] e pos) (dAsg te (dName i)) := by
  obtain ⟨ea, pa, fa⟩ := he.ex
  exact ⟨_, ps_set hN hi hx pa hs hf, @fun σ H ρ μ D Dd o t k => fa o t fun x dx H1 μ1 g1 j1 h1 t1 => k.nx _ _ _ _ g1 ((o.grow g1 j1).set i h1) t1⟩
/-- x = e, with a word about the value -/
def dAsgC (te : DE) (i : Nat) : DS := fun D ρ μ => ∃ M : DQ, te ρ μ M ∧ ∀ d μ1, M d μ1 → D.nx (ρ.set i (some d)) μ1
theorem ds_setC {i : Nat} {x : Str} {pos' : Pos} (hN : X.N.Nodup) (he : PD X G e te) (hi : X.N[i]? = some x := by rfl) (hx : Loc X.env.scope x := by first | exact .inl rfl | exact .inr rfl) (hs : swapsWith e (some (.Name x pos')) pos.line X.env = pure false := by rfl)
    (hf : X.fn x = true ∨ X.env.scope.names.lookup x = some .local := by first | exact .inl rfl | exact .inr rfl | assumption) : PDS X G (.Assign [.Name x pos'] e pos) (dAsgC te i) := by
  obtain ⟨ea, pa, fa⟩ := he.ex
  refine ⟨_, ps_set hN hi hx pa hs hf, @fun σ H ρ μ D Dd o t k => ?_⟩
  obtain ⟨M, h, hM⟩ := t
  exact fa o h fun x dx H1 μ1 g1 j1 h1 t1 => k.nx _ _ _ _ g1 ((o.grow g1 j1).set i h1) (hM _ _ t1)
def dPar (i j : Nat) (t : DA) : DS := fun D ρ μ => t ρ μ fun ds μ1 => match ds with
  | [x, y] => D.nx ((ρ.set i (some x)).set j (some y)) μ1
  | _ => False
theorem ds_par {i j : Nat} {x y : Str} {px py pt : Pos} {kt k2 pt2} (hc : X.calm = true) (hN : X.N.Nodup) (ha : PDA X G [a, b] tA) (hi : X.N[i]? = some x := by rfl) (hj : X.N[j]? = some y := by rfl) (hij : i ≠ j := by decide)
    (hx : X.env.scope.names.lookup x = some .local := by rfl) (hy : X.env.scope.names.lookup y = some .local := by rfl)
    (hw : swappedStores [.Tuple [.Name x px, .Name y py] kt pt] (.Tuple [a, b] k2 pt2) X.env = pure (some [x, y]) := by rfl)
    (hs : swapsWithSole [.Tuple [.Name x px, .Name y py] kt pt] (.Tuple [a, b] k2 pt2) pos.line X.env = pure false := by rfl) :
    PDS X G (.Assign [.Tuple [.Name x px, .Name y py] kt pt] (.Tuple [a, b] k2 pt2) pos) (dPar i j tA) := by
  obtain ⟨ea, pa, fa⟩ := ha.ex
  refine ⟨_, ps_par hc hN hi hj hij hx hy pa hw hs, @fun σ H ρ μ D Dd o t k => fa o t fun xs ds H1 μ1 g1 j1 h1 t1 => ?_⟩
  split at t1
  · obtain ⟨v, v', rfl, h2, h3⟩ := h1.two
    exact ⟨v, v', rfl, k.nx _ _ _ _ g1 (((o.grow g1 j1).set i h2).set j h3) t1⟩
  · exact t1.elim
/-- xs[i] = e, xs a list that changes -/
def gSetL : D → D → D → Mu → (Mu → Prop) → Prop := fun x i d μ Q => match x, i with
  | .ref a, .int k => match μ a with
    | some (.lst xs) => match ixN xs.length k with
      | some j => Q (mup μ a (.lst (xs.set j d)))
      | none => False
    | _ => False
  | _, _ => False
def dSub (to ti : DE) : DG := fun d ρ μ Q => to ρ μ fun x μ1 => ti ρ μ1 fun i μ2 => gSetL x i d μ2 fun μ3 => Q ρ μ3
theorem dg_sub (ho : PD X G o to) (hi : PD X G a ti) (ha : ∀ v, assign (.Subscript o a pos) X.env v = (do
      let ov ← holding [v] (eval o X.env)
      let iv ← holding [v, ov] (eval a X.env)
      standAt pos
      holding [v, ov, iv] (setItem ov iv v)
      release [v, ov, iv] []) := by intro _; rfl) : PDG X G (.Subscript o a pos) (dSub to ti) := by
  obtain ⟨eo, po, fo⟩ := ho.ex
  obtain ⟨ei, pi, fi⟩ := hi.ex
  refine ⟨_, pg_sub po pi set_list ha, @fun v d σ H ρ μ Q Qd o h t k => ?_⟩
  refine fo o t fun x dx H1 μ1 g1 j1 h1 t1 => ?_
  have o1 := o.grow g1 j1
  refine fi o1 t1 fun y dy H2 μ2 g2 j2 h2 t2 => ?_
  have h1' := h1.grow g2
  unfold gSetL at t2
  split at t2
  · rename_i c kk
    cases h1'
    cases h2
    split at t2
    · rename_i xs q
      obtain ⟨vs, e, l⟩ := j2 c _ q
      split at t2
      · rename_i n en
        have gg : Gr μ2 H2 (mup μ2 c (.lst (xs.set n d))) (upd H2 c (.lst (vs.set n v))) := Gr.turn q
        refine ⟨c, vs, kk, n, rfl, rfl, e, by rw [l.length]; exact en, ?_⟩
        have jj := j2.turn (o := .lst (vs.set n v)) (u' := .lst (xs.set n d)) q ⟨_, upd_same, (DaL.set ((h.grow g1).grow g2) n l).grow gg⟩
        exact k _ _ _ _ ((g1.trans g2).trans gg) ((o1.grow g2 j2).grow gg jj) t2
      · exact t2.elim
    · exact t2.elim
  · exact t2.elim

/-! for -/
/-- what is walked: the items, and what must stay true of the store for them to stay -/
structure ItD (K : PySem.W.Frag) (It : It) (xs : List D) (src : Mu → Prop) (μ1 : Mu) (H1 : Hp) : Prop where
  step : ∀ i μ H, i < xs.length → Gr μ1 H1 μ H → J K μ H → src μ → It.go i H ∧ ∀ x H', It.yld i H x H' → ∃ d, xs[i]? = some d ∧ Gr μ H μ H' ∧ J K μ H' ∧ Da K μ H' x d
  fin : ∀ μ H, Gr μ1 H1 μ H → J K μ H → src μ → It.stop xs.length H
abbrev DI := Ro → Mu → (List D → (Mu → Prop) → Mu → Prop) → Prop
structure PDI (X : Cx) (G : Gh) (tg iter : Expr) (t : DI) : Prop where
  ex : ∃ wi, PI X tg iter wi ∧ ∀ {σ : L2.St} {H : Hp} {ρ : Ro} {μ : Mu} {R : It → Hp → Prop} {Rd : List D → (Mu → Prop) → Mu → Prop}, Okd X.K G μ H σ ρ → t ρ μ Rd →
    (∀ It xs src H' μ', Gr μ H μ' H' → J X.K μ' H' → ItD X.K It xs src μ' H' → Rd xs src μ' → R It H') → wi σ H R
/-- a list, a tuple -/
def dRow (te : DE) : DI := fun ρ μ R => te ρ μ fun x μ1 => match x with
  | .lst xs => R xs (fun _ => True) μ1
  | .sq xs => R xs (fun _ => True) μ1
  | .ref a => match μ1 a with
    | some (.lst xs) => R xs (fun μ => μ a = some (.lst xs)) μ1
    | _ => False
  | _ => False
def dRowT (te : DE) : DI := fun ρ μ R => te ρ μ fun x μ1 => match x with
  | .tup xs => R xs (fun _ => True) μ1
  | _ => False
theorem lt_get {α : Type} {xs : List α} {i : Nat} (h : i < xs.length) : xs[i]? = some xs[i] := List.getElem?_eq_getElem h
theorem it_list {a : Addr} {xs : List D} {src : Mu → Prop} {μ1 : Mu} {H1 : Hp} (h : ∀ μ H, Gr μ1 H1 μ H → J K μ H → src μ → ∃ vs, SqL K H a vs ∧ DaL K μ H vs xs) : ItD K (Itl K a) xs src μ1 H1 where
  step := fun i μ H hi g j s => by
    obtain ⟨vs, hq, l⟩ := h μ H g j s
    obtain ⟨v, ev, hv⟩ := l.get (lt_get hi)
    refine ⟨⟨vs, v, hq, ev⟩, fun x H' y => ?_⟩
    obtain ⟨rfl, y⟩ := y
    have e := (y vs hq).symm.trans ev
    cases e
    exact ⟨_, lt_get hi, Gr.refl, j, hv⟩
  fin := fun μ H g j s => by
    obtain ⟨vs, hq, l⟩ := h μ H g j s
    exact ⟨vs, hq, Nat.le_of_eq l.length⟩
theorem it_tup {a : Addr} {xs : List D} {src : Mu → Prop} {μ1 : Mu} {H1 : Hp} (h : ∀ μ H, Gr μ1 H1 μ H → J K μ H → src μ → ∃ vs, SqT K H a vs ∧ DaL K μ H vs xs) : ItD K (Itt K a) xs src μ1 H1 where
  step := fun i μ H hi g j s => by
    obtain ⟨vs, hq, l⟩ := h μ H g j s
    obtain ⟨v, ev, hv⟩ := l.get (lt_get hi)
    refine ⟨⟨vs, v, hq, ev⟩, fun x H' y => ?_⟩
    obtain ⟨rfl, y⟩ := y
    have e := (y vs hq).symm.trans ev
    cases e
    exact ⟨_, lt_get hi, Gr.refl, j, hv⟩
  fin := fun μ H g j s => by
    obtain ⟨vs, hq, l⟩ := h μ H g j s
    exact ⟨vs, hq, Nat.le_of_eq l.length⟩
theorem di_list {tg : Expr} (he : PD X G e te) : PDI X G tg e (dRow te) := by
  obtain ⟨ea, pa, fa⟩ := he.ex
  refine ⟨_, pi_list pa, @fun σ H ρ μ R Rd o t k => fa o t fun x dx H1 μ1 g1 j1 h1 t1 => ?_⟩
  split at t1
  · cases h1 with | lst n e l =>
    exact ⟨_, rfl, ⟨_, SqL.of e⟩, k _ _ _ _ _ g1 j1 (it_list fun μ H g j _ => ⟨_, SqL.of (g.keep _ _ n e), l.grow g⟩) t1⟩
  · cases h1 with | sq e l =>
    refine ⟨_, rfl, ⟨_, Da.sqL e⟩, k _ _ _ _ _ g1 j1 (it_list fun μ H g j _ => ⟨_, ?_, l.grow g⟩) t1⟩
    rcases e with ⟨n, e⟩ | e
    · exact .inl (g.rd n e).2
    · exact .inr e
  · cases h1
    split at t1
    · rename_i q
      obtain ⟨vs, e, l⟩ := j1 _ _ q
      refine ⟨_, rfl, ⟨_, SqL.of e⟩, k _ _ _ _ _ g1 j1 (it_list fun μ H g j s => ?_) t1⟩
      obtain ⟨ws, e2, l2⟩ := j _ _ s
      exact ⟨ws, SqL.of e2, l2⟩
    · exact t1.elim
  · exact t1.elim
theorem di_tup {tg : Expr} (he : PD X G e te) : PDI X G tg e (dRowT te) := by
  obtain ⟨ea, pa, fa⟩ := he.ex
  refine ⟨_, pi_tup pa, @fun σ H ρ μ R Rd o t k => fa o t fun x dx H1 μ1 g1 j1 h1 t1 => ?_⟩
  split at t1
  · cases h1 with | tup e l =>
    refine ⟨_, rfl, ⟨_, Da.sqT e⟩, k _ _ _ _ _ g1 j1 (it_tup fun μ H g j _ => ⟨_, ?_, l.grow g⟩) t1⟩
    refine Da.sqT (μ := μ) ?_
    rcases e with ⟨n, ob, e, z⟩ | e
    · exact .inl ⟨g.out n e, ob, g.keep _ _ n e, z⟩
    · exact .inr e
  · exact t1.elim
def rng (lo : Int) (n : Nat) : List D := (List.range n).map fun (i : Nat) => D.int (lo + (i : Int))
theorem rng_len {lo : Int} {n : Nat} : (rng lo n).length = n := by unfold rng; simp
theorem rng_get {lo : Int} {n i : Nat} (h : i < n) : (rng lo n)[i]? = some (.int (lo + (i : Int))) := by
  unfold rng
  rw [List.getElem?_map, List.getElem?_range h]
  rfl
def dRng1 (t : DA) : DI := fun ρ μ R => t ρ μ fun ds μ1 => match ds with
  | [.int j] => -(2 ^ 62) ≤ j ∧ j < 2 ^ 62 ∧ R (rng 0 j.toNat) (fun _ => True) μ1
  | _ => False
theorem di_range1 {tg : Expr} (hm : X.mg "range" = none) (ha : PDA X G [a] tA) (hg : Gl X "range" := by rfl) (hs : starEach [a] X.env = [(false, eval a X.env)] := by rfl) : PDI X G tg (.Call (.Name "range" p) [a] [] pos) (dRng1 tA) := by
  obtain ⟨ea, pa, fa⟩ := ha.ex
  refine ⟨_, pi_range1 hg hm pa hs, @fun σ H ρ μ R Rd o t k => fa o t fun xs ds H1 μ1 g1 j1 h1 t1 => ?_⟩
  split at t1
  · rename_i n
    obtain ⟨v, rfl, hv⟩ := h1.one
    cases hv
    refine ⟨n, rfl, t1.1, t1.2.1, k _ _ _ _ _ g1 j1 ⟨fun i μ H hi g j s => ?_, fun μ H g j s => ?_⟩ t1.2.2⟩
    · rw [rng_len] at hi
      refine ⟨hi, fun x H' y => ?_⟩
      obtain ⟨rfl, rfl⟩ := y
      exact ⟨_, rng_get hi, Gr.refl, j, .int _⟩
    · rw [rng_len]
      exact Nat.le_refl _
  · exact t1.elim
def dFor (ti : DI) (g : DG) (tb : DS) : DS := fun D ρ μ => ti ρ μ fun xs src μ1 => ∃ Pv : Nat → Ro → Mu → Prop, Pv 0 ρ μ1 ∧ (∀ i ρ μ, Pv i ρ μ → src μ) ∧
  (∀ i x ρ μ, xs[i]? = some x → Pv i ρ μ → g x ρ μ fun ρ2 μ2 => tb { D with nx := Pv (i + 1), ct := Pv (i + 1), bk := D.nx } ρ2 μ2) ∧ ∀ ρ μ, Pv xs.length ρ μ → D.nx ρ μ
theorem ds_for {tg iter : Expr} {body : List Stmt} {ti : DI} {g : DG} {tb : DS} (hp : PassesOwn (model X.prog X.w) X.A X.env X.xe) (hc : X.calm = true) (hi : PDI X G tg iter ti) (hg : PDG X G tg g) (hb : PDSs X G body tb)
    (hs : ∀ x, foldedSetIterable iter X.env x = pure x := by intro _; rfl) : PDS X G (.For tg iter body [] pos) (dFor ti g tb) := by
  obtain ⟨wi, pi, fi⟩ := hi.ex
  obtain ⟨gg, pg, fg⟩ := hg.ex
  obtain ⟨bb, pb, fb⟩ := hb.ex
  refine ⟨_, ps_for hp hc pi pg pb hs, @fun σ H ρ μ D Dd o t k => fi o t fun It xs src H1 μ1 g1 j1 I t1 => ?_⟩
  obtain ⟨Pv, p0, ps, pt, pe⟩ := t1
  have o1 := o.grow g1 j1
  refine ⟨fun i m σ H => m = xs.length - i ∧ i ≤ xs.length ∧ ∃ ρ μ, Gr μ1 H1 μ H ∧ Okd X.K G μ H σ ρ ∧ Pv i ρ μ, ⟨xs.length, by simp, Nat.zero_le _, ρ, μ1, Gr.refl, o1, p0⟩, ?_⟩
  rintro i m σ2 H2 ⟨rfl, hi, ρ2, μ2, gr2, o2, p2⟩
  by_cases hl : i < xs.length
  · obtain ⟨go, yl⟩ := I.step i μ2 H2 hl gr2 o2.j (ps _ _ _ p2)
    refine .inr ⟨go, fun σ' H' => i + 1 ≤ xs.length ∧ ∃ ρ μ, Gr μ1 H1 μ H' ∧ Okd X.K G μ H' σ' ρ ∧ Pv (i + 1) ρ μ, fun σ' H' ⟨a1, a2⟩ => ⟨xs.length - (i + 1), by omega, rfl, a1, a2⟩, fun x H' y => ?_⟩
    obtain ⟨d, ed, g3, j3, h3⟩ := yl x H' y
    have o3 := o2.grow g3 j3
    refine fg o3 h3 (pt i d ρ2 μ2 ed p2) fun σ4 H4 ρ4 μ4 g4 o4 q4 => ?_
    have gall : Gr μ1 H1 μ4 H4 := (gr2.trans g3).trans g4
    refine fb o4 q4 ⟨?_, (k.rt.after g1).after gall, (k.nx.after g1).after gall, ?_⟩
    · exact fun σ5 H5 ρ5 μ5 g5 o5 q5 => ⟨hl, ρ5, μ5, gall.trans g5, o5, q5⟩
    · exact fun σ5 H5 ρ5 μ5 g5 o5 q5 => ⟨hl, ρ5, μ5, gall.trans g5, o5, q5⟩
  · have e : i = xs.length := by omega
    subst e
    exact .inl ⟨I.fin μ2 H2 gr2 o2.j (ps _ _ _ p2), k.nx _ _ _ _ (g1.trans gr2) o2 (pe _ _ p2)⟩
end

/-! ### a def by its body -/
/-- since the entry at μ, H -/
def ghost (μ : Mu) (H : Hp) : Gh := ⟨Gr μ H, fun a b => a.trans b⟩
def startD (N : List Str) (ds : List D) : Ro := ds.map some ++ List.replicate (N.length - ds.length) none
theorem start_ok {K : PySem.W.Frag} {G : Gh} {μ : Mu} {H : Hp} {N : List Str} {vs : List V} {ds : List D} (j : J K μ H) (g : G.at_ μ H) (l : DaL K μ H vs ds) : Okd K G μ H (start N vs) (startD N ds) := by
  have n := l.length
  refine ⟨j, g, by unfold L2.start startD; simp [n], fun i d h => ?_⟩
  unfold startD at h
  unfold L2.start
  by_cases hi : i < ds.length
  · rw [List.getElem?_append_left (by simpa using hi), List.getElem?_map] at h
    obtain ⟨d', e, e'⟩ := Option.map_eq_some_iff.mp h
    cases e'
    obtain ⟨v, ev, hv⟩ := l.get e
    refine ⟨v, ?_, hv⟩
    rw [List.getElem?_append_left (by simpa [n] using hi), List.getElem?_map, ev]
    rfl
  · rw [List.getElem?_append_right (by simpa using hi), List.getElem?_replicate] at h
    split at h <;> cases h
section
variable {P : Program} {w : World} {K : PySem.W.Frag} {mg : Str → Option Value} {base : Heap} {k : Nat} {f : Addr} {fd : FuncData} {ps N : List Str} {spd : SpD} {x qual : Str} {st : Stmt}
theorem okD (F : Fun K x qual st f fd) (S : FnScope N ps (defScope st)) (ar : ∀ {ds μ Q}, spd ds μ Q → ds.length = ps.length)
    (body : ∀ (X : Cx) (G : Gh), (∃ cdv A outer s H E, X = (cxOf CX0 P w K mg base N qual (defScope st) f cdv A outer s H E).nox) → X.A.guards = some [] → Room k X.A → ∃ t, PDSs X G (defBody st) t ∧ ∀ {ds μ Q}, spd ds μ Q → t { nx := fun _ μ => Q .non μ, rt := Q } (startD N ds) μ) :
    FnG P w K mg base CX0 (k + 1) f fd ps (up K spd) := by
  refine okG F S (@fun vs H Q E h => ?_) (@fun cdv A outer s H vs Q E hg hr h => ?_)
  · obtain ⟨ds, μ, Qd, j, l, q, _⟩ := h
    exact l.length.trans (ar q)
  · obtain ⟨ds, μ, Qd, j, l, q, kk⟩ := h
    obtain ⟨t, ht, hq⟩ := body _ (ghost μ H) ⟨cdv, A, outer, s, H, E, rfl⟩ hg hr
    obtain ⟨ts, p, fn⟩ := ht.ex
    refine ⟨ts, p.nox, fn (start_ok j Gr.refl l) (hq q) ⟨fun σ' H' ρ' μ' g' o' q' => kk _ _ _ _ g' o'.j .non q', kk, fun _ _ _ _ _ _ z => z.elim, fun _ _ _ _ _ _ z => z.elim⟩⟩
end
end Dl

/-! rows that turn readings into plain sentences -/
namespace Dl
open PySem PySem.Spec PyProof.Rows L2
section
variable {μ : Mu} {Q : DQ} {x y : D} {xs ys : List D} {i j : Int} {a b : Str} {p q : Bool}
theorem vw_lst : vw μ (.lst xs) = .lst xs := rfl
theorem vw_sq : vw μ (.sq xs) = .sq xs := rfl
theorem vw_tup : vw μ (.tup xs) = .tup xs := rfl
theorem vw_str : vw μ (.str a) = .str a := rfl
theorem vw_int : vw μ (.int i) = .int i := rfl
theorem vw_bl : vw μ (.bl p) = .bl p := rfl
theorem vw_non : vw μ .non = .non := rfl
theorem vw_ref {c : Addr} (h : μ c = some (.lst xs)) : vw μ (.ref c) = .lst xs := by simp only [vw, h]
theorem dp_int : (PyData.int i).depth = 0 := by simp only [PyData.depth]
theorem dp_str : (PyData.str a).depth = 0 := by simp only [PyData.depth]
theorem dp_bool : (PyData.bool p).depth = 0 := by simp only [PyData.depth]
theorem dp_none : PyData.none.depth = 0 := by simp only [PyData.depth]
/-! == -/
theorem gEq_int : gEq (.int i) (.int j) μ Q = Q (.bl (decide (i = j))) μ := by
  unfold gEq gD CEq
  simp only [vw_int, pur, py, PyData.plain, dp_int, PyData.eqv, true_and, Nat.zero_le]
  first | rfl | (rw [Bool.beq_eq_decide_eq])
theorem gNe_int : gNe (.int i) (.int j) μ Q = Q (.bl (!decide (i = j))) μ := by
  unfold gNe gD CEq
  simp only [vw_int, pur, py, PyData.plain, dp_int, PyData.eqv, true_and, Nat.zero_le]
  first | rfl | (rw [Bool.beq_eq_decide_eq])
theorem gEq_bl : gEq (.bl p) (.bl q) μ Q = Q (.bl (decide (p = q))) μ := by
  unfold gEq gD CEq
  simp only [vw_bl, pur, py, PyData.plain, dp_bool, PyData.eqv, true_and, Nat.zero_le]
  first | rfl | (rw [Bool.beq_eq_decide_eq])
theorem gEq_str : gEq (.str a) (.str b) μ Q = Q (.bl (decide (a = b))) μ := by
  unfold gEq gD CEq
  simp only [vw_str, pur, py, PyData.plain, dp_str, PyData.eqv, true_and, Nat.zero_le]
  have : (a == b) = decide (a = b) := by rw [Bool.eq_iff_iff]; simp
  first | rfl | rw [this]
theorem gNe_str : gNe (.str a) (.str b) μ Q = Q (.bl (!decide (a = b))) μ := by
  unfold gNe gD CEq
  simp only [vw_str, pur, py, PyData.plain, dp_str, PyData.eqv, true_and, Nat.zero_le]
  have : (a == b) = decide (a = b) := by rw [Bool.eq_iff_iff]; simp
  first | rfl | rw [this]
/-! order -/
theorem gLt_int : gLt (.int i) (.int j) μ Q = Q (.bl (decide (i < j))) μ := by
  unfold gLt gD CLt
  simp only [vw_int, pur, py, PySem.W.alike, dp_int, PySem.W.dataLt_int, true_and, Nat.zero_le, ne_eq, reduceCtorEq, not_false_eq_true]
theorem gGt_int : gGt (.int i) (.int j) μ Q = Q (.bl (decide (j < i))) μ := by
  unfold gGt gD CLt
  simp only [vw_int, pur, py, PySem.W.alike, dp_int, PySem.W.dataLt_int, true_and, Nat.zero_le, ne_eq, reduceCtorEq, not_false_eq_true]
theorem gLe_int : gLe (.int i) (.int j) μ Q = Q (.bl (decide (i ≤ j))) μ := by
  unfold gLe gD CLt
  simp only [vw_int, pur, py, PySem.W.alike, dp_int, PySem.W.dataLt_int, true_and, Nat.zero_le, ne_eq, reduceCtorEq, not_false_eq_true, PySem.W.not_lt_int]
theorem gGe_int : gGe (.int i) (.int j) μ Q = Q (.bl (decide (j ≤ i))) μ := by
  unfold gGe gD CLt
  simp only [vw_int, pur, py, PySem.W.alike, dp_int, PySem.W.dataLt_int, true_and, Nat.zero_le, ne_eq, reduceCtorEq, not_false_eq_true, PySem.W.not_lt_int]
/-! numbers -/
theorem gAdd_int : gAdd (.int i) (.int j) μ Q = Q (.int (i + j)) μ := rfl
theorem gSub_int : gSub (.int i) (.int j) μ Q = Q (.int (i - j)) μ := rfl
theorem gMul_int : gMul (.int i) (.int j) μ Q = (CMul i j ∧ Q (.int (i * j)) μ) := rfl
theorem gMod_int : gMod (.int i) (.int j) μ Q = (0 < j ∧ Q (.int (i % j)) μ) := rfl
theorem gDiv_int : gDiv (.int i) (.int j) μ Q = (CDiv i j ∧ Q (.int (i / j)) μ) := rfl
theorem gPow_int : gPow (.int i) (.int j) μ Q = (CPow i j ∧ Q (.int (i ^ j.toNat)) μ) := rfl
theorem gNeg_int : gNeg (.int i) μ Q = Q (.int (-i)) μ := rfl
theorem gNot_bl : gNot (.bl p) μ Q = Q (.bl (!p)) μ := rfl
theorem gIs_bl : gIs (.bl p) (.bl q) μ Q = Q (.bl (decide (p = q))) μ := rfl
/-! items -/
theorem gIx_t {n : Nat} {d : D} (h : xs[n]? = some d) : gIx (.tup xs) (.int (n : Int)) μ Q = Q d μ := by
  unfold gIx
  simp only [vw_tup, atI_nat h]
theorem gIx_l {n : Nat} {d : D} (h : xs[n]? = some d) : gIx (.lst xs) (.int (n : Int)) μ Q = Q d μ := by
  unfold gIx
  simp only [vw_lst, atI_nat h]
theorem gIx_r {n : Nat} {d : D} {c : Addr} (hc : μ c = some (.lst xs)) (h : xs[n]? = some d) : gIx (.ref c) (.int (n : Int)) μ Q = Q d μ := by
  unfold gIx
  simp only [vw_ref hc, atI_nat h]
theorem gIx_t0 {x0 : D} {r : List D} : gIx (.tup (x0 :: r)) (.int 0) μ Q = Q x0 μ := gIx_t (n := 0) rfl
theorem gIx_t1 {x0 x1 : D} {r : List D} : gIx (.tup (x0 :: x1 :: r)) (.int 1) μ Q = Q x1 μ := gIx_t (n := 1) rfl
theorem gIx_t2 {x0 x1 x2 : D} {r : List D} : gIx (.tup (x0 :: x1 :: x2 :: r)) (.int 2) μ Q = Q x2 μ := gIx_t (n := 2) rfl
theorem gIx_t3 {x0 x1 x2 x3 : D} {r : List D} : gIx (.tup (x0 :: x1 :: x2 :: x3 :: r)) (.int 3) μ Q = Q x3 μ := gIx_t (n := 3) rfl
theorem gLen_l : gLen [.lst xs] μ Q = Q (.int xs.length) μ := rfl
theorem gLen_t : gLen [.tup xs] μ Q = Q (.int xs.length) μ := rfl
theorem gSl_l {l u : Option Int} : gSl (.lst xs) l u μ Q = Q (.lst (cutD xs l u)) μ := rfl
theorem gSl_sq {l u : Option Int} : gSl (.sq xs) l u μ Q = Q (.lst (cutD xs l u)) μ := rfl
theorem gSl_t {l u : Option Int} : gSl (.tup xs) l u μ Q = Q (.tup (cutD xs l u)) μ := rfl
theorem gRev_l : gRev (.lst xs) μ Q = Q (.lst xs.reverse) μ := rfl
theorem gRev_t : gRev (.tup xs) μ Q = Q (.tup xs.reverse) μ := rfl
theorem gRevM_l : gRevM (.lst xs) μ Q = (∀ p, μ p = none → Q (.ref p) (mup μ p (.lst xs.reverse))) := rfl
theorem gList_l : gList [.lst xs] μ Q = Q (.lst xs) μ := rfl
theorem gList_sq : gList [.sq xs] μ Q = Q (.lst xs) μ := rfl
theorem gList_t : gList [.tup xs] μ Q = Q (.lst xs) μ := rfl
theorem gMax2_int : gMax2 [.int i, .int j] μ Q = Q (.int (if j > i then j else i)) μ := rfl
theorem gRepr_l : gRepr [.lst xs] μ Q = (Shows (.lst xs) ∧ Q (.str (py (.lst xs)).shown) μ) := by unfold gRepr rowOf; simp only [vw_lst, Option.isSome_some, true_and]
theorem gRepr_t : gRepr [.tup xs] μ Q = (Shows (.tup xs) ∧ Q (.str (py (.tup xs)).shown) μ) := by unfold gRepr rowOf; simp only [vw_tup, Option.isSome_some, true_and]
theorem gPop_ref {c : Addr} {d : D} (h : μ c = some (.lst xs)) (hd : xs[xs.length - 1]? = some d) : gPop (.ref c) μ Q = Q d (mup μ c (.lst xs.dropLast)) := by unfold gPop; simp only [h, hd]
theorem gAppend_ref {c : Addr} {d : D} (h : μ c = some (.lst xs)) : gAppend (.ref c) [d] μ Q = (xs.length < sizeLine ∧ Q .non (mup μ c (.lst (xs ++ [d])))) := by unfold gAppend; simp only [h]
theorem gIx_r0 {c : Addr} {x0 : D} {r : List D} (h : μ c = some (.lst (x0 :: r))) : gIx (.ref c) (.int 0) μ Q = Q x0 μ := gIx_r (n := 0) h rfl
theorem gIx_r1 {c : Addr} {x0 x1 : D} {r : List D} (h : μ c = some (.lst (x0 :: x1 :: r))) : gIx (.ref c) (.int 1) μ Q = Q x1 μ := gIx_r (n := 1) h rfl
theorem gIx_r2 {c : Addr} {x0 x1 x2 : D} {r : List D} (h : μ c = some (.lst (x0 :: x1 :: x2 :: r))) : gIx (.ref c) (.int 2) μ Q = Q x2 μ := gIx_r (n := 2) h rfl
theorem gSet_2 {c : Addr} {x0 x1 x2 v : D} {R : Mu → Prop} (h : μ c = some (.lst [x0, x1, x2])) : gSetL (.ref c) (.int 2) v μ R = R (mup μ c (.lst [x0, x1, v])) := by unfold gSetL; simp only [h]; rfl
/-- xs != [] of a list of ints that changes -/
theorem gNe_nil {c : Addr} {ns : List Int} (h : μ c = some (.lst (ns.map D.int))) : gNe (.ref c) (.lst []) μ Q = Q (.bl (!ns.isEmpty)) μ := by
  unfold gNe gD CEq
  have e1 : ∀ ns : List Int, purL (ns.map D.int) = true := fun ns => by
    induction ns with
    | nil => rfl
    | cons n ns ih => simp only [List.map, purL, pur, ih, Bool.and_self]
  have e2 : PyData.eqv (.list (pyL (ns.map D.int))) (.list []) = ns.isEmpty := by
    cases ns with
    | nil => simp [pyL, PyData.eqv, PyData.eqvAll]
    | cons n ns => simp [pyL, PyData.eqv, PyData.eqvAll]
  have e3 := pyL_plain (ns.map D.int)
  simp only [vw_ref h, vw_lst, pur, purL, py, pyL, PyData.plain, PyData.plainAll, PyData.depth, PyData.depthAll, e1, e2, e3, true_and]
  simp
theorem sz {n : Nat} (h : n ≤ 10000) : n ≤ sizeLine := Nat.le_trans h (by decide)
end
/-- where a law begins -/
theorem up_law {K : PySem.W.Frag} {H : Hp} {a : Addr} {ns : List Int} {spd : SpD} {E : XK} (hS : SqL K H a (ns.map V.int)) (h : spd [.sq (ns.map .int)] (fun _ => none) (fun d _ => d = .bl true)) : up K spd [.ref a] H (fun v _ => v = .bl true) E := by
  refine ⟨[.sq (ns.map .int)], fun _ => none, fun d _ => d = .bl true, (fun _ _ e => nomatch e), .cons (.sq ?_ (DaL.ints ns)) .nil, h, ?_⟩
  · rcases hS with r | r
    · exact .inl ⟨rfl, r⟩
    · exact .inr r
  · intro v d H' μ' _ _ hv e
    subst e
    cases hv
    rfl
/-! ### the deck of a law: [cells, mixed, turns] -/
def Deck (μ : Mu) (d c : Addr) (n : Nat) : Prop := ∃ (cells : List Int) (m t : Int), μ d = some (.lst [.ref c, .int m, .int t]) ∧ μ c = some (.lst (cells.map .int)) ∧ d ≠ c ∧ cells.length ≤ 63 ∧ 0 ≤ m ∧ m < 2147483648 ∧ 0 ≤ t ∧ t ≤ n
/-- all but the deck is as it was -/
def But (d c : Addr) (μ μ' : Mu) : Prop := ∀ b, b ≠ d → b ≠ c → μ' b = μ b
theorem But.refl {d c : Addr} {μ : Mu} : But d c μ μ := fun _ _ _ => rfl
theorem But.trans {d c : Addr} {μ μ1 μ2 : Mu} (a : But d c μ μ1) (b : But d c μ1 μ2) : But d c μ μ2 := fun x h1 h2 => (b x h1 h2).trans (a x h1 h2)
def sp_deck : SpD := fun ds μ Q => ∃ ns : List Int, ds = [.sq (ns.map .int)] ∧ ns.length ≤ 63 ∧ ∀ μ' d c, μ d = none → μ c = none → Deck μ' d c 0 → But d c μ μ' → Q (.ref d) μ'
def sp_draw : SpD := fun ds μ Q => ∃ (d c : Addr) (many : Int) (n : Nat), ds = [.ref d, .int many] ∧ 0 < many ∧ many < 1073741824 ∧ Deck μ d c n ∧ n < 1000000000 ∧
  ∀ μ' i, 0 ≤ i → i < many → Deck μ' d c (n + 1) → But d c μ μ' → Q (.int i) μ'
/-- one of a list -/
def sp_pick : SpD := fun ds μ Q => ∃ (d c : Addr) (xs : List D) (n : Nat), ds = [.ref d, .lst xs] ∧ 0 < xs.length ∧ xs.length < 1073741824 ∧ Deck μ d c n ∧ n < 1000000000 ∧
  ∀ μ' x, x ∈ xs → Deck μ' d c (n + 1) → But d c μ μ' → Q x μ'
theorem Deck.more {μ : Mu} {d c : Addr} {n m : Nat} (h : Deck μ d c n) (l : n ≤ m) : Deck μ d c m := by
  obtain ⟨cells, x, t, a1, a2, a3, a4, a5, a6, a7, a8⟩ := h
  exact ⟨cells, x, t, a1, a2, a3, a4, a5, a6, a7, by omega⟩
end Dl

/-! Own classes: instances as data (D.obj) or as things that change (Ob.ins); calls with defaults and keywords. -/
namespace Dl
open PySem PySem.Spec PyProof.Rows L2

/-! ### straight from and to the walk -/
section
variable {X : Cx} {G : Gh} {e : Expr} {t : DE} {pins : List (Addr × Obj)} {s : Shared} {σ : L2.St} {H : Hp} {ρ : Ro} {μ : Mu} {Q : VK} {Qd : DQ}
def KD (K : PySem.W.Frag) (μ : Mu) (H : Hp) (Qd : DQ) : VK := fun v H' => ∃ d μ', Gr μ H μ' H' ∧ J K μ' H' ∧ Da K μ' H' v d ∧ Qd d μ'
def KDL (K : PySem.W.Frag) (μ : Mu) (H : Hp) (Qd : List D → Mu → Prop) : List V → Hp → Prop := fun v H' => ∃ d μ', Gr μ H μ' H' ∧ J K μ' H' ∧ DaL K μ' H' v d ∧ Qd d μ'
theorem ktKD {K : PySem.W.Frag} : Kt K μ H (KD K μ H Qd) Qd := fun v d H' μ' g j h q => ⟨d, μ', g, j, h, q⟩
theorem ktKDL {K : PySem.W.Frag} {Qd : List D → Mu → Prop} : KtL K μ H (KDL K μ H Qd) Qd := fun v d H' μ' g j h q => ⟨d, μ', g, j, h, q⟩
theorem PD.of (h : ∀ pins s σ H ρ μ Q Qd, Inv X pins σ H s → Okd X.K G μ H σ ρ → t ρ μ Qd → Kt X.K μ H Q Qd → wpAny (model X.prog X.w) X.A (eval e X.env) (EP X pins σ Q) X.xe s) : PD X G e t :=
  ⟨fun σ H Q => ∃ ρ μ Qd, Okd X.K G μ H σ ρ ∧ t ρ μ Qd ∧ Kt X.K μ H Q Qd, ⟨fun pins s σ H Q I ⟨ρ, μ, Qd, o, q, k⟩ => h pins s σ H ρ μ Q Qd I o q k⟩, fun o q k => ⟨_, _, _, o, q, k⟩⟩
theorem PD.run (h : PD X G e t) (I : Inv X pins σ H s) (o : Okd X.K G μ H σ ρ) (q : t ρ μ Qd) : wpAny (model X.prog X.w) X.A (eval e X.env) (EP X pins σ (KD X.K μ H Qd)) X.xe s := by
  obtain ⟨te, p, f⟩ := h.ex
  exact p.run pins s σ H _ I (f o q ktKD)
/-- an operation on values by what it does on data -/
def rG (K : PySem.W.Frag) (g : G2) : R2 := fun x y H Q => ∃ dx dy μ Qd, J K μ H ∧ Da K μ H x dx ∧ Da K μ H y dy ∧ g dx dy μ Qd ∧ Kt K μ H Q Qd
theorem lf_rG {K : PySem.W.Frag} {g : G2} : Lf2 K (rG K g) g := fun j hx hy q k => ⟨_, _, _, _, j, hx, hy, q, k⟩
def rG1 (K : PySem.W.Frag) (g : D → Mu → DQ → Prop) : V → Hp → VK → Prop := fun x H Q => ∃ dx μ Qd, J K μ H ∧ Da K μ H x dx ∧ g dx μ Qd ∧ Kt K μ H Q Qd
theorem lf_rG1 {K : PySem.W.Frag} {g : D → Mu → DQ → Prop} : Lf1 K (rG1 K g) g := fun j hx q k => ⟨_, _, _, j, hx, q, k⟩
def rGL (K : PySem.W.Frag) (g : List D → Mu → DQ → Prop) : List V → Hp → VK → Prop := fun xs H Q => ∃ ds μ Qd, J K μ H ∧ DaL K μ H xs ds ∧ g ds μ Qd ∧ Kt K μ H Q Qd
theorem lf_rGL {K : PySem.W.Frag} {g : List D → Mu → DQ → Prop} : LfL K (rGL K g) g := fun j hx q k => ⟨_, _, _, j, hx, q, k⟩
end

/-! ### how a call binds -/
def nth {α : Type} : List α → Nat → Option α
  | [], _ => none
  | x :: _, 0 => some x
  | _ :: r, n + 1 => nth r n
def pick {α : Type} : List Nat → List α → List α
  | [], _ => []
  | i :: is, xs => match nth xs i with
    | some x => x :: pick is xs
    | none => pick is xs
theorem Vals.nth : ∀ {vs : List V} {us : List Value}, Vals vs us → ∀ i, (∃ v u, Dl.nth vs i = some v ∧ Dl.nth us i = some u ∧ RelV v u) ∨ (Dl.nth vs i = none ∧ Dl.nth us i = none)
  | _, _, .nil, _ => .inr ⟨rfl, rfl⟩
  | _, _, .cons h _, 0 => .inl ⟨_, _, rfl, rfl, h⟩
  | _, _, .cons _ r, i + 1 => Vals.nth r i
theorem Vals.pick {vs : List V} {us : List Value} (h : Vals vs us) : ∀ ix : List Nat, Vals (Dl.pick ix vs) (Dl.pick ix us)
  | [] => .nil
  | i :: is => by
    unfold Dl.pick
    rcases Vals.nth h i with ⟨v, u, e1, e2, r⟩ | ⟨e1, e2⟩
    · rw [e1, e2]
      exact .cons r (Vals.pick h is)
    · rw [e1, e2]
      exact Vals.pick h is
section
variable {K : PySem.W.Frag} {μ : Mu} {H : Hp}
theorem DaL.nth : ∀ {vs : List V} {ds : List D}, DaL K μ H vs ds → ∀ i, (∃ v d, Dl.nth vs i = some v ∧ Dl.nth ds i = some d ∧ Da K μ H v d) ∨ (Dl.nth vs i = none ∧ Dl.nth ds i = none)
  | _, _, .nil, _ => .inr ⟨rfl, rfl⟩
  | _, _, .cons h _, 0 => .inl ⟨_, _, rfl, rfl, h⟩
  | _, _, .cons _ r, i + 1 => DaL.nth r i
theorem DaL.pick {vs : List V} {ds : List D} (h : DaL K μ H vs ds) : ∀ ix : List Nat, DaL K μ H (Dl.pick ix vs) (Dl.pick ix ds)
  | [] => .nil
  | i :: is => by
    unfold Dl.pick
    rcases DaL.nth h i with ⟨v, u, e1, e2, r⟩ | ⟨e1, e2⟩
    · rw [e1, e2]
      exact .cons r (DaL.pick h is)
    · rw [e1, e2]
      exact DaL.pick h is
end
/-- n written values, keywords ks; dd the defaults as data, ix where each parameter's value stands among them all -/
structure Bnd (K : PySem.W.Frag) (fd : FuncData) (ps : List Str) (n : Nat) (ks : List Str) (dd : List D) (ix : List Nat) : Prop where
  to : ∀ (s : Shared) (us ws : List Value) (vs zs : List V), K.In s.heap → us.length = n → ws.length = ks.length → Vals vs us → Vals zs ws →
    ∃ vs' us', Vals vs' us' ∧ BindsTo s fd ⟨us, ks.zip ws⟩ (ps.zip us') ∧ ∀ {μ : Mu} {H : Hp} {ds : List D}, DaL K μ H (vs ++ zs) ds → DaL K μ H vs' (pick ix (ds ++ dd))
section
variable {K : PySem.W.Frag} {x qual : Str} {st : Stmt} {f : Addr} {fd : FuncData} {ps ks : List Str} {n : Nat} {ix : List Nat}
/-- no defaults -/
theorem Fun.bnd (F : Fun K x qual st f fd) (n : Nat) (ks : List Str) (ix : List Nat)
    (h : ∀ (kV doc pm : Value) (an : Option Addr) (cdv ct : Value) (us ws : List Value), us.length = n → ws.length = ks.length →
      bindArgs (PySem.W.fnOf x qual (defArgs st) (defBody st) (defScope st) .none kV doc pm an cdv ct) ⟨us, ks.zip ws⟩ = pure (ps.zip (pick ix (us ++ ws)))) : Bnd K fd ps n ks [] ix := by
  obtain ⟨oc, od, kV, doc, pm, an, cdv, ct, osl, rfl, lk, hcd⟩ := F.ex
  refine ⟨fun s us ws vs zs X hn hk r1 r2 => ⟨pick ix (vs ++ zs), pick ix (us ++ ws), Vals.pick (r1.append r2) ix, .of_eq (h kV doc pm an cdv ct us ws hn hk), fun l => ?_⟩⟩
  rw [List.append_nil]
  exact l.pick ix
/-- constants, as values and as data -/
inductive Cst (K : PySem.W.Frag) : List V → List D → Prop
  | nil : Cst K [] []
  | cons {v : V} {d : D} {vs : List V} {ds : List D} : (∀ μ H, Da K μ H v d) → Cst K vs ds → Cst K (v :: vs) (d :: ds)
theorem Cst.da {μ : Mu} {H : Hp} : ∀ {vs : List V} {ds : List D}, Cst K vs ds → DaL K μ H vs ds
  | _, _, .nil => .nil
  | _, _, .cons h l => .cons (h μ H) l.da
theorem Cst.append : ∀ {vs ws : List V} {ds es : List D}, Cst K vs ds → Cst K ws es → Cst K (vs ++ ws) (ds ++ es)
  | _, _, _, _, .nil, s => s
  | _, _, _, _, .cons h l, s => .cons h (l.append s)
variable {params : Arguments} {body : List Stmt} {scope : Scope} {dvs : List V} {dd : List D} {kws : List (Str × V)}
/-- defaults, no keyword-only ones -/
theorem FunD.bnd1 (F : FunD K x qual params body scope dvs kws f fd) (n : Nat) (ks : List Str) (ix : List Nat) (hd : dvs ≠ []) (hc : Cst K dvs dd)
    (h : ∀ (T : Addr) (kV doc pm : Value) (an : Option Addr) (cdv ct : Value) (us ws its : List Value), us.length = n → ws.length = ks.length → its.length = dvs.length →
      ∃ k, bindArgs (PySem.W.fnOf x qual params body scope (.ref T) kV doc pm an cdv ct) ⟨us, ks.zip ws⟩ = seqItems? (.ref T) >>= k ∧ k (some its.toArray) = pure (ps.zip (pick ix (us ++ ws ++ its)))) : Bnd K fd ps n ks dd ix := by
  obtain ⟨oc, od, dV, kV, doc, pm, an, cdv, ct, osl, rfl, lk, hcd, hD, hK⟩ := F.ex
  rcases hD with ⟨e, _⟩ | ⟨_, T, o, its, m, rfl, lT, oT, rT⟩
  · exact absurd e hd
  · refine ⟨fun s us ws vs zs X hn hk r1 r2 => ⟨pick ix (vs ++ zs ++ dvs), pick ix (us ++ ws ++ its), Vals.pick ((r1.append r2).append rT) ix, ?_, fun l => (l.append hc.da).pick ix⟩⟩
    obtain ⟨k, e1, e2⟩ := h T kV doc pm an cdv ct us ws its hn hk rT.length.symm
    refine BindsTo.of_looks fun M => ?_
    rw [e1]
    exact looks_items X lT oT (.of_pure e2)
/-- defaults and keyword-only ones; ms: those of the latter that lack -/
theorem FunD.bnd2 (F : FunD K x qual params body scope dvs kws f fd) (n : Nat) (ks : List Str) (ix : List Nat) (ms : List (Str × V)) {dm : List D} (hd : dvs ≠ []) (hk : kws ≠ []) (hms : ∀ q ∈ ms, q ∈ kws) (hc : Cst K dvs dd) (hm : Cst K (ms.map (·.2)) dm)
    (h : ∀ (T D : Addr) (doc pm : Value) (an : Option Addr) (cdv ct : Value) (us ws its mv : List Value), us.length = n → ws.length = ks.length → its.length = dvs.length → mv.length = ms.length →
      ∃ k, bindArgs (PySem.W.fnOf x qual params body scope (.ref T) (.ref D) doc pm an cdv ct) ⟨us, ks.zip ws⟩ = seqItems? (.ref T) >>= k ∧ KwChain D ((ms.map (·.1)).zip mv) (k (some its.toArray)) (ps.zip (pick ix (us ++ ws ++ (its ++ mv))))) : Bnd K fd ps n ks (dd ++ dm) ix := by
  obtain ⟨oc, od, dV, kV, doc, pm, an, cdv, ct, osl, rfl, lk, hcd, hD, hK⟩ := F.ex
  rcases hD with ⟨e, _⟩ | ⟨_, T, o, its, m, rfl, lT, oT, rT⟩
  · exact absurd e hd
  · rcases hK with e | ⟨D, rfl, hq⟩
    · exact absurd e hk
    · obtain ⟨mv, hl, rk, hks⟩ := kwd_vals (ms := ms) fun q hm => hq q (hms q hm)
      refine ⟨fun s us ws vs zs X hn hk r1 r2 => ⟨pick ix (vs ++ zs ++ (dvs ++ ms.map (·.2))), pick ix (us ++ ws ++ (its ++ mv)), Vals.pick ((r1.append r2).append (rT.append rk)) ix, ?_, fun l => (l.append (hc.append hm).da).pick ix⟩⟩
      obtain ⟨k, e1, e2⟩ := h T D doc pm an cdv ct us ws its mv hn hk rT.length.symm hl
      refine BindsTo.of_looks fun M => ?_
      rw [e1]
      exact looks_items X lT oT (KwChain.looks X hks e2)
/-- keyword-only defaults alone -/
theorem FunD.bnd3 (F : FunD K x qual params body scope [] kws f fd) (n : Nat) (ks : List Str) (ix : List Nat) (ms : List (Str × V)) {dm : List D} (hk : kws ≠ []) (hms : ∀ q ∈ ms, q ∈ kws) (hm : Cst K (ms.map (·.2)) dm)
    (h : ∀ (D : Addr) (doc pm : Value) (an : Option Addr) (cdv ct : Value) (us ws mv : List Value), us.length = n → ws.length = ks.length → mv.length = ms.length →
      KwChain D ((ms.map (·.1)).zip mv) (bindArgs (PySem.W.fnOf x qual params body scope .none (.ref D) doc pm an cdv ct) ⟨us, ks.zip ws⟩) (ps.zip (pick ix (us ++ ws ++ mv)))) : Bnd K fd ps n ks dm ix := by
  obtain ⟨oc, od, dV, kV, doc, pm, an, cdv, ct, osl, rfl, lk, hcd, hD, hK⟩ := F.ex
  rcases hD with ⟨_, rfl⟩ | ⟨e, _⟩
  · rcases hK with e | ⟨D, rfl, hq⟩
    · exact absurd e hk
    · obtain ⟨mv, hl, rk, hks⟩ := kwd_vals (ms := ms) fun q hm => hq q (hms q hm)
      refine ⟨fun s us ws vs zs X hn hk r1 r2 => ⟨pick ix (vs ++ zs ++ ms.map (·.2)), pick ix (us ++ ws ++ mv), Vals.pick ((r1.append r2).append rk) ix, ?_, fun l => (l.append hm.da).pick ix⟩⟩
      exact BindsTo.of_looks fun M => KwChain.looks X hks (h D doc pm an cdv ct us ws mv hn hk hl)
  · exact absurd rfl e
end

/-! ### the arguments of a call, whatever their form -/
structure PDC (X : Cx) (G : Gh) (pos : Pos) (es : List Expr) (kws : List Keyword) (n : Nat) (ks : List Str) (t : DA) : Prop where
  go : ∀ {f : Value} {first : List Value} {pins : List (Addr × Obj)} {s : Shared} {σ : L2.St} {H : Hp} {ρ : Ro} {μ : Mu} {Qd : List D → Mu → Prop} {R : Value → Shared → Prop}, Inv X pins σ H s → PySem.W.keepIn X.K f = true → Okd X.K G μ H σ ρ → t ρ μ Qd →
    (∀ us ws vs zs ds H2 μ2 s2, Inv X pins σ H2 s2 → Vals vs us → Vals zs ws → us.length = n → ws.length = ks.length → Gr μ H μ2 H2 → J X.K μ2 H2 → DaL X.K μ2 H2 (vs ++ zs) ds → Qd ds μ2 → wpAny (model X.prog X.w) X.A (call f (first ++ us) (ks.zip ws)) R X.xe s2) →
    wpAny (model X.prog X.w) X.A (callWith pos f first (backTo pos (starEach es X.env)) (backToKw pos (keywordEach kws X.env))) R X.xe s
section
variable {X : Cx} {G : Gh} {pos : Pos} {e : Expr} {es : List Expr} {kw : Keyword} {kws : List Keyword} {tA tK : DA} {ks : List Str} {n : Nat}
def dBoth (tA tK : DA) : DA := fun ρ μ Q => tA ρ μ fun xs μ1 => tK ρ μ1 fun ys μ2 => Q (xs ++ ys) μ2
def dLen (n : Nat) (t : DA) : DA := fun ρ μ Q => t ρ μ fun xs μ1 => xs.length = n ∧ Q xs μ1
theorem pdc_0 : PDC X G pos [] [] 0 [] dNil := ⟨fun I hk o q k => PySem.W.callWith_K0 I.kIn hk (k [] [] [] [] [] _ _ _ I .nil .nil rfl rfl Gr.refl o.j .nil q)⟩
theorem pdc_p (ha : PDA X G (e :: es) tA) (he : starEach (e :: es) X.env = (false, eval e X.env) :: starEach es X.env := by rfl) (hpl : (backTo pos (starEach es X.env)).any (·.1) = false := by rfl) : PDC X G pos (e :: es) [] n [] (dLen n tA) := by
  obtain ⟨ta, pa, fa⟩ := ha.ex
  refine ⟨@fun f first pins s σ H ρ μ Qd R I hk o q k => ?_⟩
  refine PySem.W.callWith_K (h₀ := X.base) I.ok.mod.kin hk (thn (pa.run pos pins s σ H _ I (fa o q ktKDL)) ?_) he hpl
  rintro us s1 ⟨vs, H1, I1, r, ds, μ1, g, j, l, hl, q1⟩
  exact ⟨I1.kIn, k us [] vs [] ds H1 μ1 s1 I1 r .nil (by rw [← r.length, l.length, hl]) rfl g j (by rw [List.append_nil]; exact l) q1⟩
theorem pdc_k (hkw : PDK X G (kw :: kws) tK) (hall : (backToKw pos (keywordEach (kw :: kws) X.env)).all (·.1.isSome) = true := by rfl) (hks : (backToKw pos (keywordEach (kw :: kws) X.env)).filterMap (·.1) = ks := by rfl)
    (hpl : ((backTo pos (starEach [] X.env)).any (·.1) || (backToKw pos (keywordEach (kw :: kws) X.env)).any (·.1.isNone)) = false := by rfl) : PDC X G pos [] (kw :: kws) 0 ks (dLen ks.length tK) := by
  obtain ⟨ta, pa, fa⟩ := hkw.ex
  refine ⟨@fun f first pins s σ H ρ μ Qd R I hk o q k => ?_⟩
  refine PySem.W.callWith_KW0 (h₀ := X.base) I.ok.mod.kin hk hall (thn (pa.run pos pins s σ H _ I (fa o q ktKDL)) ?_) hpl
  rintro ws s1 ⟨zs, H1, I1, r, ds, μ1, g, j, l, hl, q1⟩
  rw [hks]
  refine ⟨I1.kIn, ?_⟩
  have := k [] ws [] zs ds H1 μ1 s1 I1 .nil r rfl (by rw [← r.length, l.length, hl]) g j l q1
  simpa using this
theorem pdc_b (ha : PDA X G (e :: es) tA) (hkw : PDK X G (kw :: kws) tK) (hall : (backToKw pos (keywordEach (kw :: kws) X.env)).all (·.1.isSome) = true := by rfl) (hks : (backToKw pos (keywordEach (kw :: kws) X.env)).filterMap (·.1) = ks := by rfl)
    (he : starEach (e :: es) X.env = (false, eval e X.env) :: starEach es X.env := by rfl)
    (hpl : ((backTo pos (starEach (e :: es) X.env)).any (·.1) || (backToKw pos (keywordEach (kw :: kws) X.env)).any (·.1.isNone)) = false := by rfl) : PDC X G pos (e :: es) (kw :: kws) n ks (dBoth (dLen n tA) (dLen ks.length tK)) := by
  obtain ⟨ta, pa, fa⟩ := ha.ex
  obtain ⟨tb, pb, fb⟩ := hkw.ex
  refine ⟨@fun f first pins s σ H ρ μ Qd R I hk o q k => ?_⟩
  refine PySem.W.callWith_KW (h₀ := X.base) I.ok.mod.kin hk hall (thn (pa.run pos pins s σ H _ I (fa o q ktKDL)) ?_) hpl he
  rintro us s1 ⟨vs, H1, I1, r, ds, μ1, g, j, l, hl, q1⟩
  refine thn (pb.run pos pins s1 σ H1 _ I1 (fb (o.grow g j) q1 ktKDL)) ?_
  rintro ws s2 ⟨zs, H2, I2, r2, es, μ2, g2, j2, l2, hl2, q2⟩
  rw [hks]
  exact ⟨I2.kIn, k us ws vs zs (ds ++ es) H2 μ2 s2 I2 r r2 (by rw [← r.length, l.length, hl]) (by rw [← r2.length, l2.length, hl2]) (g.trans g2) j2 ((l.grow g2).append l2) q2⟩
end

/-! ### running a def's code wherever it is called from -/
section
variable {X : Cx} {G : Gh} {pins : List (Addr × Obj)} {σ : L2.St} {H : Hp} {s : Shared} {k : Nat} {f : Addr} {fd : FuncData} {ps : List Str} {spd : SpD} {A : Around} {E : Value → Shared → Prop} {R : Value → Shared → Prop} {us ws us' : List Value} {vs' : List V} {ks : List Str} {μ : Mu} {ds : List D} {Qd : DQ}
theorem run_at (F : FnG X.prog X.w X.K X.mg X.base CX0 k f fd ps (up X.K spd)) (hgu : A.guards = some []) (hr : Room k A) (I : Inv X pins σ H s) (e0 : Env0 X.prog X.w X.K X.mg X.base A X.stack s H) (hb : BindsTo s fd ⟨us, ks.zip ws⟩ (ps.zip us')) (hv : Vals vs' us')
    (j : J X.K μ H) (l : DaL X.K μ H vs' ds) (q : spd ds μ Qd) (h : ∀ u s', EP X pins σ (KD X.K μ H Qd) u s' → R u s') : wpAny (model X.prog X.w) A (call (.ref f) us (ks.zip ws)) R E s := by
  refine wpAny_call (codeAny_mono (F.go (E := E0) hgu hr e0 hb hv ⟨ds, μ, Qd, j, l, q, ktKD⟩) fun r s' hq => ?_)
  match r, hq with
  | .error e, hq => exact hq.elim
  | .ok (.ret u), hq => exact h u s' (I.after hq)
end
/-- a def with how its calls bind -/
def dCallB (spd : SpD) (dd : List D) (ix : List Nat) (t : DA) : DE := fun ρ μ Q => t ρ μ fun ds μ1 => spd (pick ix (ds ++ dd)) μ1 Q
section
variable {X : Cx} {G : Gh} {pos p apos : Pos} {o : Expr} {es : List Expr} {kws : List Keyword} {tA : DA} {to : DE} {n k j : Nat} {ks ps : List Str} {dd : List D} {ix : List Nat} {spd : SpD} {x m : Str} {f C : Addr} {fd : FuncData}
theorem pd_callB (F : FnG X.prog X.w X.K X.mg X.base CX0 k f fd ps (up X.K spd)) (nm : X.mg x = some (.ref f)) (kp : PySem.W.keepIn X.K (.ref f) = true) (hb : Bnd X.K fd ps n ks dd ix) (hr : Room j X.A) (hgu : X.A.guards = some []) (ha : PDC X G pos es kws n ks tA) (hk : k ≤ j := by decide) (hg : Gl X x := by rfl)
    (hdb : (x == ("__debug__" : Str)) = false := by decide) : PD X G (.Call (.Name x p) es kws pos) (dCallB spd dd ix tA) := by
  refine .of fun pins s σ H ρ μ Q Qd I o q kk => ?_
  refine wpAny_Call_Name_kw (ld_glob I hg nm ?_ hdb)
  refine ha.go I kp o q fun us ws vs zs ds H2 μ2 s2 I2 r1 r2 h1 h2 g2 j2 l2 q2 => ?_
  obtain ⟨vs', us', rv, bt, dl⟩ := hb.to s2 us ws vs zs I2.kIn h1 h2 r1 r2
  refine run_at F hgu (hr.mono hk) I2 I2.env0 bt rv j2 (dl l2) q2 ?_
  rintro u s' ⟨v, H3, I3, ru, d, μ3, g3, j3, h3, q3⟩
  exact ⟨v, H3, I3, ru, kk _ _ _ _ (g2.trans g3) j3 h3 q3⟩
end
end Dl

namespace Dl
open PySem PySem.Spec PyProof.Rows L2
/-! ### instances -/
/-- the class and the fields of an instance, whether it is data or changes -/
def oin (μ : Mu) : D → Option (Addr × List (Str × D))
  | .obj C fs => some (C, fs)
  | .ref a => match μ a with
    | some (.ins C fs) => some (C, fs)
    | _ => none
  | _ => none
section
variable {K : PySem.W.Frag} {μ : Mu} {H : Hp} {v : V} {d : D} {C : Addr} {fs : List (Str × D)} {fv : List (Str × V)}
theorem Da.ins (j : J K μ H) (h : Da K μ H v d) (e : oin μ d = some (C, fs)) : ∃ a dx fv, v = .ref a ∧ H a = some (.ins C dx fv) ∧ DaF K μ H fv fs := by
  cases d with
  | obj C' fs' =>
    cases h with | obj n q l =>
    cases e
    exact ⟨_, _, _, rfl, q, l⟩
  | ref a =>
    cases h
    unfold oin at e
    simp only at e
    split at e
    · rename_i q
      cases e
      obtain ⟨dx, fv, h1, h2⟩ := j _ _ q
      exact ⟨_, _, _, rfl, h1, h2⟩
    · cases e
  | _ => cases e
theorem DaF.look {f : Str} : ∀ {fv : List (Str × V)} {fs : List (Str × D)}, DaF K μ H fv fs → (∃ v d, fv.lookup f = some v ∧ fs.lookup f = some d ∧ Da K μ H v d) ∨ (fv.lookup f = none ∧ fs.lookup f = none)
  | _, _, .nil => .inr ⟨rfl, rfl⟩
  | _, _, .cons (n := n) h l => by
    cases q : f == n with
    | true => exact .inl ⟨_, _, by simp [List.lookup, q], by simp [List.lookup, q], h⟩
    | false =>
      rcases l.look (f := f) with ⟨v, d, a, b, c⟩ | ⟨a, b⟩
      · exact .inl ⟨v, d, by simpa [List.lookup, q] using a, by simpa [List.lookup, q] using b, c⟩
      · exact .inr ⟨by simpa [List.lookup, q] using a, by simpa [List.lookup, q] using b⟩
def putD (f : Str) (d : D) : List (Str × D) → List (Str × D)
  | [] => [(f, d)]
  | (g, x) :: r => if g = f then (g, d) :: r else (g, x) :: putD f d r
theorem DaF.put {f : Str} (h : Da K μ H v d) : ∀ {fv : List (Str × V)} {fs : List (Str × D)}, DaF K μ H fv fs → DaF K μ H (putF f v fv) (putD f d fs)
  | _, _, .nil => .cons h .nil
  | _, _, .cons (n := n) q l => by
    unfold putF putD
    by_cases e : n = f
    · rw [if_pos e, if_pos e]
      exact .cons h l
    · rw [if_neg e, if_neg e]
      exact .cons q (DaF.put h l)
theorem DaF.length : ∀ {fv : List (Str × V)} {fs : List (Str × D)}, DaF K μ H fv fs → fv.length = fs.length
  | _, _, .nil => rfl
  | _, _, .cons _ l => congrArg (· + 1) l.length
/-- what changed becomes data -/
def mdel (μ : Mu) (a : Addr) : Mu := fun b => if b = a then none else μ b
theorem mdel_same {a : Addr} : mdel μ a a = none := if_pos rfl
theorem mdel_ne {a b : Addr} (h : b ≠ a) : mdel μ a b = μ b := if_neg h
theorem mdel_none {a b : Addr} (h : μ b = none) : mdel μ a b = none := by unfold mdel; split <;> first | rfl | exact h
mutual
theorem Da.del (a : Addr) : ∀ {v : V} {d : D}, Da K μ H v d → Da K (mdel μ a) H v d
  | _, _, .non => .non
  | _, _, .bl b => .bl b
  | _, _, .int i => .int i
  | _, _, .str x => .str x
  | _, _, .ty n => .ty n
  | _, _, .ref a => .ref a
  | _, _, .lst n h l => .lst (mdel_none n) h (DaL.del a l)
  | _, _, .sq (.inl ⟨n, h⟩) l => .sq (.inl ⟨mdel_none n, h⟩) (DaL.del a l)
  | _, _, .sq (.inr h) l => .sq (.inr h) (DaL.del a l)
  | _, _, .tup (.inl ⟨n, o, h, z⟩) l => .tup (.inl ⟨mdel_none n, o, h, z⟩) (DaL.del a l)
  | _, _, .tup (.inr h) l => .tup (.inr h) (DaL.del a l)
  | _, _, .obj n h l => .obj (mdel_none n) h (DaF.del a l)
  | _, _, .dK n h l => .dK (mdel_none n) h (DaK.del a l)
  | _, _, .dN n h l => .dN (mdel_none n) h (DaN.del a l)
theorem DaL.del (a : Addr) : ∀ {vs : List V} {ds : List D}, DaL K μ H vs ds → DaL K (mdel μ a) H vs ds
  | _, _, .nil => .nil
  | _, _, .cons h l => .cons (Da.del a h) (DaL.del a l)
theorem DaF.del (a : Addr) : ∀ {vs : List (Str × V)} {ds : List (Str × D)}, DaF K μ H vs ds → DaF K (mdel μ a) H vs ds
  | _, _, .nil => .nil
  | _, _, .cons h l => .cons (Da.del a h) (DaF.del a l)
theorem DaK.del (a : Addr) : ∀ {vs : List (Key × V)} {ds : List (Key × D)}, DaK K μ H vs ds → DaK K (mdel μ a) H vs ds
  | _, _, .nil => .nil
  | _, _, .cons h l => .cons (Da.del a h) (DaK.del a l)
theorem DaN.del (a : Addr) : ∀ {vs : List (NestedKey × Addr × Value)} {ds : List (NestedKey × D)}, DaN K μ H vs ds → DaN K (mdel μ a) H vs ds
  | _, _, .nil => .nil
  | _, _, .cons h z r h2 l => .cons (Da.del a h) z r (Da.del a h2) (DaN.del a l)
end
theorem J.del {a : Addr} (j : J K μ H) : J K (mdel μ a) H := fun b o q => by
  by_cases e : b = a
  · subst e
    rw [mdel_same] at q
    cases q
  · rw [mdel_ne e] at q
    match o, j b o q with
    | .lst _, ⟨vs, h, l⟩ => exact ⟨vs, h, l.del a⟩
    | .dK _, ⟨vs, h, l⟩ => exact ⟨vs, h, l.del a⟩
    | .ins _ _, ⟨dx, fv, h, l⟩ => exact ⟨dx, fv, h, l.del a⟩
    | .hid, h => exact h
    | .xd _, ⟨fv, h, l⟩ => exact ⟨fv, h, l.del a⟩
    | .dN _ _, ⟨xs, h, l⟩ => exact ⟨xs, h, l.del a⟩
    | .dL _ _ _, ⟨xs, es, ep, h, z, l⟩ => exact ⟨xs, es, ep, h, z, l.del a⟩
theorem Gr.del {μ' : Mu} {H' : Hp} {a : Addr} (g : Gr μ H μ' H') (n : H a = none) (n' : μ a = none) : Gr μ H (mdel μ' a) H' where
  hid := fun b o h h' => by
    have e : b ≠ a := fun e => by rw [e, n'] at h; cases h
    rw [mdel_ne e]
    exact g.hid b o h h'
  keep := g.keep
  new := fun b h h' => by
    by_cases e : b = a
    · rw [e]; exact n
    · rw [mdel_ne e] at h'
      exact g.new b h h'
end

/-! ### fields -/
def gFld (C : Addr) (f : Str) : D → Mu → DQ → Prop := fun x μ Q => ∃ fs d, oin μ x = some (C, fs) ∧ fs.lookup f = some d ∧ Q d μ
def dFld (C : Addr) (f : Str) (to : DE) : DE := fun ρ μ Q => to ρ μ fun x μ1 => gFld C f x μ1 Q
section
variable {X : Cx} {G : Gh} {pos p apos : Pos} {o e value : Expr} {es : List Expr} {kws : List Keyword} {tA : DA} {to tv : DE} {n k j : Nat} {ks ps : List Str} {dd : List D} {ix : List Nat} {spd : SpD} {x m f : Str} {fa C g : Addr} {fd : FuncData}
theorem pd_fld (c : Cls X.K C) (na : NoAttr X.K C f) (ho : PD X G o to) (hb : attributeBase o f X.env (eval o X.env) = eval o X.env := by rfl) : PD X G (.Attribute o f pos) (dFld C f to) := by
  refine .of fun pins s σ H ρ μ Q Qd I ok q kk => ?_
  refine attr_of hb (thn (ho.run I ok q) ?_)
  rintro u s1 ⟨v, H1, I1, ru, d, μ1, g1, j1, h1, fs, y, e1, e2, q1⟩
  obtain ⟨a, dx, fv, rfl, ea, l⟩ := h1.ins j1 e1
  obtain rfl : u = Value.ref a := ru
  rcases l.look (f := f) with ⟨z, y', a1, a2, a3⟩ | ⟨_, a2⟩
  · rw [e2] at a2
    cases a2
    exact getattr_ok I1 ea c na a1 fun u' s2 I2 ru' => ⟨z, H1, I2, ru', (kk.after g1).now j1 a3 q1⟩
  · rw [e2] at a2
    cases a2
/-- o.f = value, o an instance that changes -/
def gSetF (C : Addr) (f : Str) : D → D → Mu → (Mu → Prop) → Prop := fun x d μ Q => ∃ a fs, x = .ref a ∧ μ a = some (.ins C fs) ∧ fs.length < 1000 ∧ Q (mup μ a (.ins C (putD f d fs)))
def dSetF (C : Addr) (f : Str) (to tv : DE) : DS := fun D ρ μ => tv ρ μ fun y μ1 => to ρ μ1 fun x μ2 => gSetF C f x y μ2 fun μ3 => D.nx ρ μ3
theorem PDS.of {st : Stmt} {t : DS} (h : ∀ pins s σ H ρ μ D Dd, Inv X pins σ H s → Okd X.K G μ H σ ρ → t Dd ρ μ → EK X.K G μ H D Dd → wpAny (model X.prog X.w) X.A (exec st X.env) (SP X pins D) X.xe s) : PDS X G st t :=
  ⟨fun D σ H => ∃ ρ μ Dd, Okd X.K G μ H σ ρ ∧ t Dd ρ μ ∧ EK X.K G μ H D Dd, ⟨fun pins s σ H D I ⟨ρ, μ, Dd, o, q, k⟩ => h pins s σ H ρ μ D Dd I o q k⟩, fun o q k => ⟨_, _, _, o, q, k⟩⟩
theorem ds_fld {pos' : Pos} (c : Cls X.K C) (na : NoAttr X.K C f) (ho : PD X G o to) (hv : PD X G value tv) (hs : swapsWith value (some (.Attribute o f pos')) pos.line X.env = pure false := by rfl) : PDS X G (.Assign [.Attribute o f pos'] value pos) (dSetF C f to tv) := by
  refine .of fun pins s σ H ρ μ D Dd I ok q kk => ?_
  refine plainObj_wpAny_Assign_Attribute (thn (hv.run I ok q) ?_) hs
  rintro u s1 ⟨y, H1, I1, ry, d, μ1, g1, j1, h1, q1⟩
  refine thn (ho.run I1 (ok.grow g1 j1) q1) ?_
  rintro ov s2 ⟨x, H2, I2, rx, dx, μ2, g2, j2, h2, a, fs, rfl, e1, e2, q2⟩
  cases h2
  obtain rfl : ov = Value.ref a := rx
  obtain ⟨ddx, fv, ea, l⟩ := j2 a _ e1
  have gg : Gr μ2 H2 (mup μ2 a (.ins C (putD f d fs))) (upd H2 a (.ins C ddx (putF f y fv))) := Gr.turn e1
  refine setattr_ok I2 ea c na (by rw [l.length]; exact e2) ry fun s3 I3 => ⟨σ, _, I3, ?_⟩
  have jj := j2.turn (o := .ins C ddx (putF f y fv)) (u' := .ins C (putD f d fs)) e1 ⟨_, _, upd_same, (DaF.put (h1.grow g2) l).grow gg⟩
  exact kk.nx _ _ _ _ ((g1.trans g2).trans gg) (((ok.grow g1 j1).grow g2 j2).grow gg jj) q2

/-! ### C(..) -/
/-- the instance is data from then on -/
def dMake (C : Addr) (spd : SpD) (dd : List D) (ix : List Nat) (t : DA) : DE := fun ρ μ Q => t ρ μ fun ds μ1 => ∀ a, μ1 a = none → spd (pick ix (.ref a :: (ds ++ dd))) (mup μ1 a (.ins C [])) fun r μ2 => r = .non ∧ ∃ fs, μ2 a = some (.ins C fs) ∧ Q (.obj C fs) (mdel μ2 a)
/-- the instance changes -/
def dMakeM (C : Addr) (spd : SpD) (dd : List D) (ix : List Nat) (t : DA) : DE := fun ρ μ Q => t ρ μ fun ds μ1 => ∀ a, μ1 a = none → spd (pick ix (.ref a :: (ds ++ dd))) (mup μ1 a (.ins C [])) fun r μ2 => r = .non ∧ Q (.ref a) μ2
theorem make_at (M : Mk X.K C fa) (F : FnG X.prog X.w X.K X.mg X.base CX0 k fa fd ps (up X.K spd)) (hb : Bnd X.K fd ps (n + 1) ks dd ix) (hr : Room (k + 1) X.A) (hgu : X.A.guards = some [])
    {pins : List (Addr × Obj)} {s : Shared} {σ : L2.St} {H : Hp} {μ : Mu} {us ws : List Value} {vs zs : List V} {ds : List D} {R : Value → Shared → Prop} (I : Inv X pins σ H s) (r1 : Vals vs us) (r2 : Vals zs ws) (h1 : us.length = n) (h2 : ws.length = ks.length) (j : J X.K μ H) (l : DaL X.K μ H (vs ++ zs) ds)
    {Qd : Addr → DQ} (q : ∀ a, μ a = none → spd (pick ix (.ref a :: (ds ++ dd))) (mup μ a (.ins C [])) (Qd a))
    (h : ∀ a H2 μ2 s2 d, Inv X pins σ H2 s2 → H a = none → μ a = none → Gr (mup μ a (.ins C [])) H2 (mup μ a (.ins C [])) H2 → Gr μ H μ2 H2 → J X.K μ2 H2 → Da X.K μ2 H2 .non d → Qd a d μ2 → d = .non ∧ R (.ref a) s2)
    (hnn : ∀ a d μ2, Qd a d μ2 → d = .non) :
    wpAny (model X.prog X.w) X.A (call (.ref C) us (ks.zip ws)) R X.xe s := by
  have I2 := Inv.made (C := C) I
  have nx : H (s.heap.objs.size + 1) = none := I.hok.fresh (Nat.le_succ _)
  have nd : H s.heap.objs.size = none := I.hok.fresh (Nat.le_refl _)
  have ne : s.heap.objs.size + 1 ≠ s.heap.objs.size := Nat.succ_ne_self _
  have g0 : Gr μ H μ (upd H s.heap.objs.size (.own (s.heap.objs.size + 1))) := Gr.laid nd
  have j0 := j.laid (o := .own (s.heap.objs.size + 1)) nd
  have nx' : upd H s.heap.objs.size (.own (s.heap.objs.size + 1)) (s.heap.objs.size + 1) = none := by rw [upd_ne ne]; exact nx
  have g1 : Gr μ (upd H s.heap.objs.size (.own (s.heap.objs.size + 1))) (mup μ (s.heap.objs.size + 1) (.ins C [])) (upd (upd H s.heap.objs.size (.own (s.heap.objs.size + 1))) (s.heap.objs.size + 1) (.ins C s.heap.objs.size [])) := Gr.born nx'
  have j1 := j0.born (o := .ins C s.heap.objs.size []) (u := .ins C []) nx' ⟨_, _, upd_same, .nil⟩
  have na := j.free nx
  obtain ⟨vs', us', rv, bt, dl⟩ := hb.to { s with heap := (s.heap.push PySem.W.emptyDict).push (PySem.W.instObj C s.heap.objs.size) } (.ref (s.heap.objs.size + 1) :: us) ws (.ref (s.heap.objs.size + 1) :: vs) zs I2.kIn (by rw [List.length_cons, h1]) h2 (.cons rfl r1) r2
  have l2 := dl (.cons (.ref (s.heap.objs.size + 1)) ((l.grow g0).grow g1))
  refine wpAny_call (make_map (f := fa) I.kIn M.makes M.init (beq_iff_eq.mp M.fn) ?_)
  have hg' : (X.A.under (.builtin "type.__call__" ⟨.ref C :: us, ks.zip ws⟩)).guards = some [] := by
    first
    | (show pushGuards _ X.A.guards = _; rw [hgu]; rfl)
    | simp [Around.under, Code.guards, Code.isGuard, pushGuards, hgu, guardIds]
  refine codeAny_mono (F.go (E := E0) hg' (hr.make C us _) (I2.env0.make C us _) bt rv ⟨_, _, _, j1, l2, q _ na, ktKD⟩) fun r s' hq => ?_
  match r, hq with
  | .error e, hq => exact hq.elim
  | .ok (.ret u), hq =>
    obtain ⟨v, H', I3, rv', d, μ2, g2, j2, h2, q2⟩ := I2.after hq
    have e0 := hnn _ _ _ q2
    subst e0
    cases h2
    have eu : u = Value.none := rv'
    obtain ⟨_, hR⟩ := h _ H' μ2 s' .non I3 nx na Gr.refl ((g0.trans g1).trans g2) j2 .non q2
    exact ⟨eu, hR⟩
theorem pd_make (M : Mk X.K C fa) (nm : X.mg x = some (.ref C)) (F : FnG X.prog X.w X.K X.mg X.base CX0 k fa fd ps (up X.K spd)) (hb : Bnd X.K fd ps (n + 1) ks dd ix) (hr : Room j X.A) (hgu : X.A.guards = some []) (ha : PDC X G pos es kws n ks tA) (hk : k + 1 ≤ j := by decide) (hg : Gl X x := by rfl)
    (hdb : (x == ("__debug__" : Str)) = false := by decide) : PD X G (.Call (.Name x p) es kws pos) (dMake C spd dd ix tA) := by
  refine .of fun pins s σ H ρ μ Q Qd I ok q kk => ?_
  refine wpAny_Call_Name_kw (ld_glob I hg nm ?_ hdb)
  refine ha.go (first := []) I M.kp ok q fun us ws vs zs ds H2 μ2 s2 I2 r1 r2 h1 h2 g2 j2 l2 q2 => ?_
  refine make_at M F hb (hr.mono hk) hgu I2 r1 r2 h1 h2 j2 l2 q2 (fun a H3 μ3 s3 d I3 n1 n2 _ g3 j3 h3 q3 => ⟨q3.1, ?_⟩) fun a d μ3 q3 => q3.1
  obtain ⟨_, fs, e, q3⟩ := q3
  obtain ⟨dx, fv, ea, l⟩ := j3 a _ e
  exact ⟨.ref a, H3, I3, rfl, kk _ _ _ _ (g2.trans (g3.del n1 n2)) j3.del (.obj mdel_same ea (l.del a)) q3⟩
theorem pd_makeM (M : Mk X.K C fa) (nm : X.mg x = some (.ref C)) (F : FnG X.prog X.w X.K X.mg X.base CX0 k fa fd ps (up X.K spd)) (hb : Bnd X.K fd ps (n + 1) ks dd ix) (hr : Room j X.A) (hgu : X.A.guards = some []) (ha : PDC X G pos es kws n ks tA) (hk : k + 1 ≤ j := by decide) (hg : Gl X x := by rfl)
    (hdb : (x == ("__debug__" : Str)) = false := by decide) : PD X G (.Call (.Name x p) es kws pos) (dMakeM C spd dd ix tA) := by
  refine .of fun pins s σ H ρ μ Q Qd I ok q kk => ?_
  refine wpAny_Call_Name_kw (ld_glob I hg nm ?_ hdb)
  refine ha.go (first := []) I M.kp ok q fun us ws vs zs ds H2 μ2 s2 I2 r1 r2 h1 h2 g2 j2 l2 q2 => ?_
  refine make_at M F hb (hr.mono hk) hgu I2 r1 r2 h1 h2 j2 l2 q2 (fun a H3 μ3 s3 d I3 n1 n2 _ g3 j3 h3 q3 => ⟨q3.1, ?_⟩) fun a d μ3 q3 => q3.1
  exact ⟨.ref a, H3, I3, rfl, kk _ _ _ _ (g2.trans g3) j3 (.ref a) q3.2⟩

/-! ### o.m(..) -/
def dMeth (C : Addr) (m : Str) (spd : SpD) (dd : List D) (ix : List Nat) (to : DE) (t : DA) : DE := fun ρ μ Q => to ρ μ fun x μ1 => (∃ fs, oin μ1 x = some (C, fs) ∧ fs.lookup m = none) ∧ t ρ μ1 fun ds μ2 => spd (pick ix (x :: (ds ++ dd))) μ2 Q
theorem pd_meth {pl : Sem Bool} (c : Cls X.K C) (me : Meth X.K C m fa) (F : FnG X.prog X.w X.K X.mg X.base CX0 k fa fd ps (up X.K spd)) (hb : Bnd X.K fd ps (n + 1) ks dd ix) (hr : Room j X.A) (hgu : X.A.guards = some []) (ho : PD X G o to) (ha : PDC X G pos es kws n ks tA) (hk : k ≤ j := by decide)
    (ht : eval (.Call (.Attribute o m apos) es kws pos) X.env = (do
      let ov ← eval o X.env
      standAt apos.atName
      let (f, first) ← holding [ov] (getMethod ov m pl)
      callWith pos f first (backTo pos (starEach es X.env)) (backToKw pos (keywordEach kws X.env))) := by rfl) : PD X G (.Call (.Attribute o m apos) es kws pos) (dMeth C m spd dd ix to tA) := by
  refine .of fun pins s σ H ρ μ Q Qd I ok q kk => ?_
  refine PySem.W.methodCall_KW (pl := pl) (thn (ho.run I ok q) ?_) ht
  rintro u s1 ⟨v, H1, I1, ru, d, μ1, g1, j1, h1, ⟨fs, e1, e2⟩, q1⟩
  obtain ⟨a, dx, fv, rfl, ea, l⟩ := h1.ins j1 e1
  obtain rfl : u = Value.ref a := ru
  have hn : fv.lookup m = none := by
    rcases l.look (f := m) with ⟨_, _, _, b, _⟩ | ⟨b, _⟩
    · rw [e2] at b; cases b
    · exact b
  refine getmeth_ok I1 ea c me hn ?_
  refine ha.go (first := [.ref a]) I1 me.kp (ok.grow g1 j1) q1 fun us ws vs zs ds H2 μ2 s2 I2 r1 r2 h1' h2 g2 j2 l2 q2 => ?_
  obtain ⟨vs', us', rv, bt, dl⟩ := hb.to s2 (.ref a :: us) ws (.ref a :: vs) zs I2.kIn (by rw [List.length_cons, h1']) h2 (.cons rfl r1) r2
  refine run_at F hgu (hr.mono hk) I2 I2.env0 bt rv j2 (dl (.cons (h1.grow g2) l2)) q2 ?_
  rintro u s' ⟨v, H3, I3, ru, d, μ3, g3, j3, h3, q3⟩
  exact ⟨v, H3, I3, ru, kk _ _ _ _ ((g1.trans g2).trans g3) j3 h3 q3⟩
/-- o.f, a property -/
def dProp (C : Addr) (spd : SpD) (to : DE) : DE := fun ρ μ Q => to ρ μ fun x μ1 => (∃ fs, oin μ1 x = some (C, fs)) ∧ spd [x] μ1 Q
theorem pd_prop (c : Cls X.K C) (hp : PropOf X.K C f g fa) (F : FnG X.prog X.w X.K X.mg X.base CX0 k fa fd ps (up X.K spd)) (hb : Binds X.K fd ps []) (hr : Room j X.A) (hgu : X.A.guards = some []) (ho : PD X G o to) (hk : k + 1 ≤ j := by decide) (hl : ps.length = 1 := by rfl)
    (hab : attributeBase o f X.env (eval o X.env) = eval o X.env := by rfl) : PD X G (.Attribute o f pos) (dProp C spd to) := by
  refine .of fun pins s σ H ρ μ Q Qd I ok q kk => ?_
  refine attr_of hab (thn (ho.run I ok q) ?_)
  rintro u s1 ⟨v, H1, I1, ru, d, μ1, g1, j1, h1, ⟨fs, e1⟩, q1⟩
  obtain ⟨a, dx, fv, rfl, ea, l⟩ := h1.ins j1 e1
  obtain rfl : u = Value.ref a := ru
  obtain ⟨mA, O, _, _, _, _⟩ := ins_get I1.hok ea
  obtain ⟨od, Jn, _⟩ := O.look
  obtain ⟨rest, hrec⟩ := hp.rec_
  have I2 := I1.tok (s1.toks + 1)
  have hc : (PySem.W.clsIn X.K C).isSome = true := by
    obtain ⟨cd, hc, _⟩ := PySem.W.any_some c.hd
    rw [hc]
    rfl
  refine PySem.W.get_bind I1.kIn Jn (PySem.W.plainGet_of (c.get f)).1 (PySem.W.findObj_data hc hp.at_ hp.get hp.tak) (PySem.W.plainGet_of (c.get f)).2 (wpAny_call (PySem.W.prop_get (s := { s1 with toks := s1.toks + 1 }) I1.kIn hrec ?_))
  refine codeAny_mono (F.go (E := E0) (args := ⟨[.ref a], []⟩) (us := [.ref a]) (vs := [.ref a]) (A := X.A.in1) hgu (hr.mono hk).in1 I2.env0.in1 (hb _ [.ref a] I2.kIn (by rw [hl]; rfl)) (.cons rfl .nil) ⟨[d], μ1, Qd, j1, .cons h1 .nil, q1, ktKD⟩) fun r s' hq => ?_
  match r, hq with
  | .error e, hq => exact hq.elim
  | .ok (.ret u), hq =>
    obtain ⟨v, H3, I3, rv, d, μ3, g3, j3, h3, q3⟩ := I2.after hq
    show wpAny _ _ (handedOut u) _ _ _
    rw [PySem.W.handedOut_of (handed_of rv)]
    exact wpAny_pure ⟨v, H3, I3, rv, kk _ _ _ _ (g1.trans g3) j3 h3 q3⟩
end
end Dl

/-! while, comprehensions, truth, operators of own classes. -/
namespace Dl
open PySem PySem.Spec PyProof.Rows L2
/-! ### one reading for all contexts -/
section
variable {X : Cx} {G : Gh} {K : PySem.W.Frag}
def canE (K : PySem.W.Frag) (G : Gh) (t : DE) : TE := fun σ H Q => ∃ ρ μ Qd, Okd K G μ H σ ρ ∧ t ρ μ Qd ∧ Kt K μ H Q Qd
def canT (K : PySem.W.Frag) (G : Gh) (t : DT) : TT := fun σ H Q => ∃ ρ μ Qd, Okd K G μ H σ ρ ∧ t ρ μ Qd ∧ KtB K μ H Q Qd
theorem PD.can {e : Expr} {t : DE} (h : PD X G e t) : PE X e (canE X.K G t) := by
  obtain ⟨te, p, f⟩ := h.ex
  exact ⟨fun pins s σ H Q I ⟨ρ, μ, Qd, o, q, k⟩ => p.run pins s σ H Q I (f o q k)⟩
theorem PDT.can {e : Expr} {t : DT} (h : PDT X G e t) : PT X e (canT X.K G t) := by
  obtain ⟨te, p, f⟩ := h.ex
  exact ⟨fun pins s σ H Q I ⟨ρ, μ, Qd, o, q, k⟩ => p.run pins s σ H Q I (f o q k)⟩
end
/-! ### while -/
def dWhile (c : DT) (tb : DS) : DS := fun D ρ μ => ∃ W : Nat → Ro → Mu → Prop, (∃ m, W m ρ μ) ∧ ∀ m ρ μ, W m ρ μ →
  c ρ μ fun b μ1 => if b = true then tb { D with nx := fun ρ' μ' => ∃ m', m' < m ∧ W m' ρ' μ', ct := fun ρ' μ' => ∃ m', m' < m ∧ W m' ρ' μ', bk := D.nx } ρ μ1 else D.nx ρ μ1
theorem ds_while {X : Cx} {G : Gh} {pos : Pos} {c : Expr} {body : List Stmt} {tc : DT} {tb : DS} (hp : PassesOwn (model X.prog X.w) X.A X.env X.xe) (hc : PDT X G c tc) (hb : PDSs X G body tb) : PDS X G (.While c body [] pos) (dWhile tc tb) := by
  obtain ⟨ec, pc, fc⟩ := hc.ex
  obtain ⟨eb, pb, fb⟩ := hb.ex
  refine ⟨_, ps_while hp pc pb, @fun σ H ρ μ D Dd o t k => ?_⟩
  obtain ⟨W, ⟨m0, w0⟩, turn⟩ := t
  refine ⟨fun n σ' H' => ∃ ρ' μ', Gr μ H μ' H' ∧ Okd X.K G μ' H' σ' ρ' ∧ W n ρ' μ', ⟨m0, ρ, μ, Gr.refl, o, w0⟩, ?_⟩
  rintro n σ1 H1 ⟨ρ1, μ1, g1, o1, w1⟩
  refine fc o1 (turn n ρ1 μ1 w1) fun b H2 μ2 g2 j2 t2 => ?_
  have o2 := o1.grow g2 j2
  cases b with
  | false => exact iteF (k.nx _ _ _ _ (g1.trans g2) o2 (by simpa using t2))
  | true =>
    refine iteT ⟨fun σ' H' => ∃ m', m' < n ∧ ∃ ρ' μ', Gr μ H μ' H' ∧ Okd X.K G μ' H' σ' ρ' ∧ W m' ρ' μ', fun σ' H' h => h, ?_⟩
    have t2' : tb { Dd with nx := fun ρ' μ' => ∃ m', m' < n ∧ W m' ρ' μ', ct := fun ρ' μ' => ∃ m', m' < n ∧ W m' ρ' μ', bk := Dd.nx } ρ1 μ2 := by simpa using t2
    refine fb o2 t2' ⟨?_, (k.rt.after g1).after g2, (k.nx.after g1).after g2, ?_⟩
    · rintro σ5 H5 ρ5 μ5 g5 o5 ⟨m', hm, w'⟩
      exact ⟨m', hm, ρ5, μ5, (g1.trans g2).trans g5, o5, w'⟩
    · rintro σ5 H5 ρ5 μ5 g5 o5 ⟨m', hm, w'⟩
      exact ⟨m', hm, ρ5, μ5, (g1.trans g2).trans g5, o5, w'⟩

/-! ### comprehensions -/
section
variable {K : PySem.W.Frag} {μ μ1 : Mu} {H H1 : Hp} {E : Addr} {x : HO}
theorem ne_of_mu {a : Addr} (n : μ E ≠ none) (m : μ a = none) : a ≠ E := fun e => n (by rw [← e]; exact m)
mutual
theorem Da.over (n : μ E ≠ none) : ∀ {v : V} {d : D}, Da K μ H v d → Da K μ (upd H E x) v d
  | _, _, .non => .non
  | _, _, .bl b => .bl b
  | _, _, .int i => .int i
  | _, _, .str x => .str x
  | _, _, .ty n => .ty n
  | _, _, .ref a => .ref a
  | _, _, .lst m h l => .lst m (by rw [upd_ne (ne_of_mu n m)]; exact h) (DaL.over n l)
  | _, _, .sq (.inl ⟨m, h⟩) l => .sq (.inl ⟨m, by unfold Rd at h ⊢; rw [upd_ne (ne_of_mu n m)]; exact h⟩) (DaL.over n l)
  | _, _, .sq (.inr h) l => .sq (.inr h) (DaL.over n l)
  | _, _, .tup (.inl ⟨m, o, h, z⟩) l => .tup (.inl ⟨m, o, by rw [upd_ne (ne_of_mu n m)]; exact h, z⟩) (DaL.over n l)
  | _, _, .tup (.inr h) l => .tup (.inr h) (DaL.over n l)
  | _, _, .obj m h l => .obj m (by rw [upd_ne (ne_of_mu n m)]; exact h) (DaF.over n l)
  | _, _, .dK m h l => .dK m (by rw [upd_ne (ne_of_mu n m)]; exact h) (DaK.over n l)
  | _, _, .dN m h l => .dN m (h.to fun o q => by rw [upd_ne (ne_of_mu n m)]; exact q) (DaN.over n l)
theorem DaL.over (n : μ E ≠ none) : ∀ {vs : List V} {ds : List D}, DaL K μ H vs ds → DaL K μ (upd H E x) vs ds
  | _, _, .nil => .nil
  | _, _, .cons h l => .cons (Da.over n h) (DaL.over n l)
theorem DaF.over (n : μ E ≠ none) : ∀ {vs : List (Str × V)} {ds : List (Str × D)}, DaF K μ H vs ds → DaF K μ (upd H E x) vs ds
  | _, _, .nil => .nil
  | _, _, .cons h l => .cons (Da.over n h) (DaF.over n l)
theorem DaK.over (n : μ E ≠ none) : ∀ {vs : List (Key × V)} {ds : List (Key × D)}, DaK K μ H vs ds → DaK K μ (upd H E x) vs ds
  | _, _, .nil => .nil
  | _, _, .cons h l => .cons (Da.over n h) (DaK.over n l)
theorem DaN.over (n : μ E ≠ none) : ∀ {vs : List (NestedKey × Addr × Value)} {ds : List (NestedKey × D)}, DaN K μ H vs ds → DaN K μ (upd H E x) vs ds
  | _, _, .nil => .nil
  | _, _, .cons h z r h2 l => .cons (Da.over n h) z r (Da.over n h2) (DaN.over n l)
end
theorem J.over (j : J K μ H) (e : μ E = some .hid) : J K μ (upd H E x) := fun b o q => by
  have n : μ E ≠ none := by rw [e]; simp
  by_cases h : b = E
  · subst h
    rw [e] at q
    cases q
    show upd H b x b ≠ none
    rw [upd_same]
    simp
  · match o, j b o q with
    | .lst _, ⟨vs, a, l⟩ => exact ⟨vs, by rw [upd_ne h]; exact a, l.over n⟩
    | .dK _, ⟨vs, a, l⟩ => exact ⟨vs, by rw [upd_ne h]; exact a, l.over n⟩
    | .ins _ _, ⟨dx, fv, a, l⟩ => exact ⟨dx, fv, by rw [upd_ne h]; exact a, l.over n⟩
    | .hid, a => show upd H E x b ≠ none; rw [upd_ne h]; exact a
    | .xd _, ⟨fv, a, l⟩ => exact ⟨fv, by rw [upd_ne h]; exact a, l.over n⟩
    | .dN _ _, ⟨xs, a, l⟩ => exact ⟨xs, a.to fun o q => by rw [upd_ne h]; exact q, l.over n⟩
    | .dL _ _ _, ⟨xs, es, ep, a, z, l⟩ => exact ⟨xs, es, ep, by rw [upd_ne h]; exact a, z, l.over n⟩
theorem Gr.over (g : Gr μ H μ1 H1) (n : H E = none) : Gr μ H μ1 (upd H1 E x) where
  keep := fun b o m h => by rw [upd_ne (ne_of_none h n)]; exact g.keep b o m h
  new := g.new
  hid := fun b o m h => ⟨(g.hid b o m h).1, by rw [upd_ne (ne_of_none h n)]; exact (g.hid b o m h).2⟩
theorem Okd.over {G : Gh} {σ : L2.St} {ρ : Ro} (o : Okd K G μ H σ ρ) (e : μ E = some .hid) (g : G.at_ μ (upd H E x)) : Okd K G μ (upd H E x) σ ρ := ⟨o.j.over e, g, o.len, fun i d h => let ⟨v, a, b⟩ := o.of i d h; ⟨v, a, b.over (by rw [e]; simp)⟩⟩
theorem Okd.forget {G : Gh} {σ : L2.St} {ρ : Ro} (o : Okd K G μ H σ ρ) (i : Nat) (u : Option V) : Okd K G μ H (σ.set i u) (ρ.set i none) := by
  refine ⟨o.j, o.g, by simpa using o.len, fun k e he => ?_⟩
  by_cases hk : k = i
  · subst hk
    by_cases hl : k < ρ.length
    · rw [List.getElem?_set_self hl] at he
      cases he
    · rw [List.getElem?_eq_none (by simpa using hl)] at he
      cases he
  · rw [List.getElem?_set_ne (Ne.symm hk)] at he ⊢
    exact o.of k e he
end
def wipeD (ρ : Ro) : List Nat → Ro
  | [] => ρ
  | v :: vs => (wipeD ρ vs).set v none
theorem Okd.wipe {K : PySem.W.Frag} {G : Gh} {μ : Mu} {H : Hp} {σ : L2.St} {ρ : Ro} (o : Okd K G μ H σ ρ) : ∀ vs : List Nat, Okd K G μ H (L2.wipe σ vs) (wipeD ρ vs)
  | [] => o
  | v :: vs => (Okd.wipe o vs).forget v none
theorem set_comm' {α : Type} {l : List α} {i j : Nat} {a b : α} (h : i ≠ j) : (l.set i a).set j b = (l.set j b).set i a := List.set_comm _ _ h
theorem wipe_set {σ : L2.St} {i : Nat} {u : Option V} : ∀ {vs : List Nat}, i ∈ vs → L2.wipe (σ.set i u) vs = L2.wipe σ vs
  | v :: vs, h => by
    show (L2.wipe (σ.set i u) vs).set v none = (L2.wipe σ vs).set v none
    by_cases e : i ∈ vs
    · rw [wipe_set e]
    · have : v = i := by
        rcases List.mem_cons.mp h with q | q
        · exact q.symm
        · exact absurd q e
      subst this
      have k : ∀ {ws : List Nat}, v ∉ ws → L2.wipe (σ.set v u) ws = (L2.wipe σ ws).set v u := by
        intro ws
        induction ws with
        | nil => intro _; rfl
        | cons a r ih =>
          intro hn
          show (L2.wipe (σ.set v u) r).set a none = ((L2.wipe σ r).set a none).set v u
          rw [ih fun z => hn (List.mem_cons_of_mem _ z), set_comm' fun z => hn (by rw [z]; exact List.mem_cons_self)]
      rw [k e, List.set_set]
theorem wipe_idem (σ : L2.St) (vs : List Nat) : L2.wipe (L2.wipe σ vs) vs = L2.wipe σ vs := by
  have key : ∀ (ws : List Nat) (τ : L2.St), (∀ v ∈ ws, v ∈ vs) → L2.wipe (L2.wipe τ ws) vs = L2.wipe τ vs := by
    intro ws
    induction ws with
    | nil => intro τ _; rfl
    | cons a r ih =>
      intro τ hv
      show L2.wipe ((L2.wipe τ r).set a none) vs = _
      rw [wipe_set (hv a List.mem_cons_self)]
      exact ih τ fun v hm => hv v (List.mem_cons_of_mem _ hm)
  exact key vs σ fun v h => h
/-- targets that write the slots vs alone -/
def canG (K : PySem.W.Frag) (G : Gh) (vs : List Nat) (g : DG) : TG := fun v σ H Q => ∃ d ρ μ Qd, Okd K G μ H σ ρ ∧ Da K μ H v d ∧ g d ρ μ Qd ∧ ∀ σ' H' ρ' μ', Gr μ H μ' H' → Okd K G μ' H' σ' ρ' → L2.wipe σ' vs = L2.wipe σ vs → Qd ρ' μ' → Q σ' H'
def canGs (K : PySem.W.Frag) (G : Gh) (vs : List Nat) (g : DGs) : TGs := fun v σ H Q => ∃ d ρ μ Qd, Okd K G μ H σ ρ ∧ DaL K μ H v d ∧ g d ρ μ Qd ∧ ∀ σ' H' ρ' μ', Gr μ H μ' H' → Okd K G μ' H' σ' ρ' → L2.wipe σ' vs = L2.wipe σ vs → Qd ρ' μ' → Q σ' H'
structure PCG (X : Cx) (G : Gh) (vs : List Nat) (tg : Expr) (g : DG) : Prop where
  ok : PG X tg (canG X.K G vs g)
structure PCGs (X : Cx) (G : Gh) (vs : List Nat) (tg : List Expr) (g : DGs) : Prop where
  ok : PGs X tg (canGs X.K G vs g)
section
variable {X : Cx} {G : Gh} {vs : List Nat} {pos : Pos} {e : Expr} {es : List Expr}
theorem cg_name {i : Nat} {x : Str} (hN : X.N.Nodup) (hm : i ∈ vs := by decide) (hi : X.N[i]? = some x := by rfl) (hx : Loc X.env.scope x := by first | exact .inl rfl | exact .inr rfl) (hf : X.fn x = true ∨ X.env.scope.names.lookup x = some .local := by first | exact .inl rfl | exact .inr rfl | assumption) : PCG X G vs (.Name x pos) (dName i) := by
  refine ⟨⟨fun pins s σ H v u Q I r h => ?_⟩⟩
  obtain ⟨d, ρ, μ, Qd, o, hd, q, k⟩ := h
  exact (pg_name hN hi hx hf).run pins s σ H v u Q I r (k _ _ _ _ Gr.refl (o.set i hd) (wipe_set hm) q)
theorem cgs_nil : PCGs X G vs [] dGNil := by
  refine ⟨⟨fun pins s σ H ws us Q I r h => ?_⟩⟩
  obtain ⟨d, ρ, μ, Qd, o, hd, q, k⟩ := h
  cases hd with
  | nil => exact pgs_nil.run pins s σ H [] us Q I r ⟨rfl, k _ _ _ _ Gr.refl o rfl q⟩
  | cons _ _ => exact q.elim
theorem cgs_cons {g : DG} {gs : DGs} (h1 : PCG X G vs e g) (h2 : PCGs X G vs es gs) (hs : (assignEach (e :: es) X.env).map (·.2) = assign e X.env :: (assignEach es X.env).map (·.2) := by rfl) : PCGs X G vs (e :: es) (dGCons g gs) := by
  refine ⟨⟨fun pins s σ H ws us Q I r h => ?_⟩⟩
  obtain ⟨d, ρ, μ, Qd, o, hd, q, k⟩ := h
  cases hd with
  | nil => exact q.elim
  | cons hd l =>
    refine (pgs_cons h1.ok h2.ok hs).run pins s σ H _ us Q I r ⟨_, _, rfl, _, ρ, μ, _, o, hd, q, fun σ1 H1 ρ1 μ1 g1 o1 w1 q1 => ?_⟩
    exact ⟨_, ρ1, μ1, Qd, o1, l.grow g1, q1, fun σ2 H2 ρ2 μ2 g2 o2 w2 q2 => k _ _ _ _ (g1.trans g2) o2 (w2.trans w1) q2⟩
theorem cg_tup {k : Nat} {gs : DGs} (hc : X.calm = true) (h : PCGs X G vs es gs) (hn : (assignEach es X.env).length = es.length := by rfl) (hst : (assignEach es X.env).findIdx? (·.1) = none := by rfl) : PCG X G vs (.Tuple es k pos) (dGTup es.length gs) := by
  refine ⟨⟨fun pins s σ H v u Q I r hh => ?_⟩⟩
  obtain ⟨d, ρ, μ, Qd, o, hd, q, kk⟩ := hh
  unfold dGTup at q
  split at q
  · cases hd with | tup e l =>
    exact (pg_tup hc h.ok hn hst).run pins s σ H _ u Q I r ⟨_, _, rfl, Da.sqT e, l.length.trans q.1, _, ρ, μ, Qd, o, l, q.2, kk⟩
  · exact q.elim
end
/-- a clause's tests -/
structure PDTs (X : Cx) (G : Gh) (ifs : List Expr) (t : DT) : Prop where
  ok : PTs X ifs (canT X.K G t)
def dYes : DT := fun _ μ Q => Q true μ
section
variable {X : Cx} {G : Gh} {vs : List Nat} {pos : Pos} {e : Expr} {es : List Expr}
theorem pdts_nil : PDTs X G [] dYes := ⟨⟨fun pins s σ H Q I h => by
  obtain ⟨ρ, μ, Qd, o, q, k⟩ := h
  exact pts_nil.run pins s σ H Q I (k _ _ _ Gr.refl o.j q)⟩⟩
theorem pdts_one {t : DT} (h : PDT X G e t) : PDTs X G [e] t := ⟨pts_one h.can⟩
/-- [elt for target in iter if ..] -/
def dLc (ti : DI) (g : DG) (tt : DT) (te : DE) (vs : List Nat) : DE := fun ρ μ Q => ti ρ μ fun xs src μ1 => ∀ E, μ1 E = none → ∃ Pv : Nat → List D → Mu → Prop, Pv 0 [] (mup μ1 E .hid) ∧ (∀ i acc μ, Pv i acc μ → src μ) ∧
  (∀ i x acc μ, xs[i]? = some x → Pv i acc μ → g x (wipeD ρ vs) μ fun ρ2 μ2 => tt ρ2 μ2 fun b μ3 => if b = true then te ρ2 μ3 fun y μ4 => acc.length < sizeLine ∧ Pv (i + 1) (acc ++ [y]) μ4 else Pv (i + 1) acc μ3) ∧
  ∀ acc μ, Pv xs.length acc μ → Q (.lst acc) (mdel μ E)
theorem lc_read {K : PySem.W.Frag} {G : Gh} {own : List (Str × Nat)} {ti : DI} {wi : TI} {g : DG} {tt : DT} {te : DE}
    (fi : ∀ {σ : L2.St} {H : Hp} {ρ : Ro} {μ : Mu} {R : It → Hp → Prop} {Rd : List D → (Mu → Prop) → Mu → Prop}, Okd K G μ H σ ρ → ti ρ μ Rd → (∀ It xs src H' μ', Gr μ H μ' H' → J K μ' H' → ItD K It xs src μ' H' → Rd xs src μ' → R It H') → wi σ H R)
    {σ : L2.St} {H : Hp} {ρ : Ro} {μ : Mu} {Q : VK} {Qd : DQ} (o : Okd K G μ H σ ρ) (t : dLc ti g tt te (own.map (·.2)) ρ μ Qd) (k : Kt K μ H Q Qd) : tLc wi (canG K G (own.map (·.2)) g) (canT K G tt) (canE K G te) (own.map (·.2)) σ H Q := by
  refine fi o t fun It xs src H1 μ1 g1 j1 I t1 E nE => ?_
  obtain ⟨Pv, p0, psrc, pt, pe⟩ := t1 E (j1.free nE)
  have o1 := (o.grow g1 j1).wipe (own.map (·.2))
  have nE' := j1.free nE
  have gb : Gr μ1 H1 (mup μ1 E .hid) (upd H1 E (.lst [])) := Gr.born nE
  have jb : J K (mup μ1 E .hid) (upd H1 E (.lst [])) := j1.born nE (by show upd H1 E _ E ≠ none; rw [upd_same]; simp)
  refine ⟨fun i m H2 => m = xs.length - i ∧ i ≤ xs.length ∧ ∃ av acc μ2, H2 E = some (.lst av) ∧ μ2 E = some .hid ∧ DaL K μ2 H2 av acc ∧ Gr μ1 H1 μ2 H2 ∧ Okd K G μ2 H2 (L2.wipe σ (own.map (·.2))) (wipeD ρ (own.map (·.2))) ∧ Pv i acc μ2,
    ⟨_, rfl, Nat.zero_le _, [], [], _, upd_same, mup_same, .nil, gb, o1.grow gb jb, p0⟩, ?_⟩
  rintro i m H2 ⟨rfl, hi, av, acc, μ2, e1, e2, l2, g2, o2, p2⟩
  by_cases hl : i < xs.length
  · obtain ⟨go, yl⟩ := I.step i μ2 H2 hl g2 o2.j (psrc _ _ _ p2)
    refine .inr ⟨go, fun H' => ∃ av acc μ2, H' E = some (.lst av) ∧ μ2 E = some .hid ∧ DaL K μ2 H' av acc ∧ Gr μ1 H1 μ2 H' ∧ Okd K G μ2 H' (L2.wipe σ (own.map (·.2))) (wipeD ρ (own.map (·.2))) ∧ Pv (i + 1) acc μ2, fun H' h => ⟨xs.length - (i + 1), by omega, rfl, hl, h⟩, fun x H' y => ?_⟩
    obtain ⟨d, ed, g3, j3, h3⟩ := yl x H' y
    have o3 := o2.grow g3 j3
    have b3 := g3.hid E _ e2 e1
    refine ⟨d, _, μ2, _, o3, h3, pt i d acc μ2 ed p2, fun σ4 H4 ρ4 μ4 g4 o4 w4 q4 => ?_⟩
    have b4 := g4.hid E _ b3.1 b3.2
    refine ⟨?_, ρ4, μ4, _, o4, q4, fun b H5 μ5 g5 j5 q5 => ?_⟩
    · rw [w4]
      exact wipe_idem _ _
    have b5 := g5.hid E _ b4.1 b4.2
    have o5 := ((o3.grow g4 o4.j).grow g5 j5)
    have gall : Gr μ1 H1 μ5 H5 := ((g2.trans g3).trans g4).trans g5
    cases b with
    | false => exact iteF ⟨av, acc, μ5, b5.2, b5.1, ((l2.grow g3).grow g4).grow g5, gall, o5, by simpa using q5⟩
    | true =>
      refine iteT ⟨ρ4, μ5, _, o4.grow g5 j5, by simpa using q5, fun v dv H6 μ6 g6 j6 h6 q6 => ?_⟩
      have b6 := g6.hid E _ b5.1 b5.2
      have l6 := (((l2.grow g3).grow g4).grow g5).grow g6
      have n6 : μ6 E ≠ none := by rw [b6.1]; simp
      refine ⟨av, b6.2, by rw [l6.length]; exact q6.1, av ++ [v], acc ++ [dv], μ6, upd_same, b6.1, ?_, (gall.trans g6).over nE, (o5.grow g6 j6).over b6.1 (G.go o1.g ((gall.trans g6).over nE)), q6.2⟩
      exact (l6.append (.cons h6 .nil)).over n6
  · have e : i = xs.length := by omega
    subst e
    refine .inl ⟨I.fin μ2 H2 g2 o2.j (psrc _ _ _ p2), ?_⟩
    exact k _ _ _ _ (g1.trans (g2.del nE nE')) o2.j.del (.lst mdel_same e1 (l2.del E)) (pe _ _ p2)
theorem pd_lc {elt tg iter : Expr} {ifs : List Expr} {scope : Scope} (own : List (Str × Nat)) {ti : DI} {g : DG} {tt : DT} {te : DE} (hc : X.calm = true) (hN : X.N.Nodup) (hi : PDI X G tg iter ti) (ok : BlkOk X.N X.env.scope scope own)
    (hg : ∀ (s : Shared) (H : Hp) (C : Addr) (cl : List (Str × Addr)) (fp : List Addr), PCG (X.blk s H scope (compEnvC scope cl C X.env) fp) G (own.map (·.2)) tg g) (ht : ∀ (s : Shared) (H : Hp) (C : Addr) (cl : List (Str × Addr)) (fp : List Addr), PDTs (X.blk s H scope (compEnvC scope cl C X.env) fp) G ifs tt)
    (he : ∀ (s : Shared) (H : Hp) (C : Addr) (cl : List (Str × Addr)) (fp : List Addr), PD (X.blk s H scope (compEnvC scope cl C X.env) fp) G elt te) (hs : ∀ x, foldedSetIterable iter X.env x = pure x := by intro _; rfl) :
    PD X G (.ListComp elt [⟨tg, iter, ifs, 0⟩] scope pos) (dLc ti g tt te (own.map (·.2))) := by
  obtain ⟨wi, pi, fi⟩ := hi.ex
  exact ⟨_, pe_lc (g := canG X.K G (own.map (·.2)) g) (tt := canT X.K G tt) (te := canE X.K G te) hc hN pi ok (fun s H C cl fp => (hg s H C cl fp).ok) (fun s H C cl fp => (ht s H C cl fp).ok) (fun s H C cl fp => (he s H C cl fp).can) hs, @fun σ H ρ μ Q Qd o t k => lc_read fi o t k⟩
/-- x = [..] -/
theorem ds_setLc {i : Nat} {y : Str} {py spos : Pos} {elt tg iter : Expr} {ifs : List Expr} {scope : Scope} (own : List (Str × Nat)) {ti : DI} {g : DG} {tt : DT} {te : DE} (hc : X.calm = true) (hN : X.N.Nodup) (hi : PDI X G tg iter ti) (ok : BlkOk X.N X.env.scope scope own)
    (hg : ∀ (s : Shared) (H : Hp) (C : Addr) (cl : List (Str × Addr)) (fp : List Addr), PCG (X.blk s H scope (compEnvC scope cl C X.env) fp) G (own.map (·.2)) tg g) (ht : ∀ (s : Shared) (H : Hp) (C : Addr) (cl : List (Str × Addr)) (fp : List Addr), PDTs (X.blk s H scope (compEnvC scope cl C X.env) fp) G ifs tt)
    (he : ∀ (s : Shared) (H : Hp) (C : Addr) (cl : List (Str × Addr)) (fp : List Addr), PD (X.blk s H scope (compEnvC scope cl C X.env) fp) G elt te) (hy : X.N[i]? = some y := by rfl) (hyl : X.env.scope.names.lookup y = some .local := by rfl)
    (hsw : swapsWith (.ListComp elt [⟨tg, iter, ifs, 0⟩] scope pos) (some (.Name y py)) spos.line X.env = pure true := by exact sw_true rfl rfl rfl rfl) (hs : ∀ x, foldedSetIterable iter X.env x = pure x := by intro _; rfl) :
    PDS X G (.Assign [.Name y py] (.ListComp elt [⟨tg, iter, ifs, 0⟩] scope pos) spos) (dAsg (dLc ti g tt te (own.map (·.2))) (dName i)) := by
  obtain ⟨wi, pi, fi⟩ := hi.ex
  refine ⟨_, ps_setLc (g := canG X.K G (own.map (·.2)) g) (tt := canT X.K G tt) (te := canE X.K G te) hc hN hy hyl hsw pi ok (fun s H C cl fp => (hg s H C cl fp).ok) (fun s H C cl fp => (ht s H C cl fp).ok) (fun s H C cl fp => (he s H C cl fp).can) hs, @fun σ H ρ μ D Dd o t k => ?_⟩
  exact lc_read fi o t fun x dx H1 μ1 g1 j1 h1 t1 => k.nx _ _ _ _ g1 ((o.grow g1 j1).set i h1) t1
end
theorem mdel_mup {μ : Mu} {a : Addr} {u : Ob} (n : μ a = none) : mdel (mup μ a u) a = μ := by
  funext b
  unfold mdel mup
  split
  · rename_i e; rw [e, n]
  · rfl
end Dl

/-! isinstance, truth, texts, numbers; operators of own classes. -/
namespace Dl
open PySem PySem.Spec PyProof.Rows L2
theorem vw_inv {μ : Mu} {d e : D} (h : vw μ d = e) (hl : ∀ xs, e ≠ .lst xs) : d = e := by
  cases d with
  | ref a =>
    unfold vw at h
    simp only at h
    split at h
    · exact absurd h.symm (hl _)
    · exact h
  | _ => exact h
/-! ### types -/
inductive Ty where
  | non | bl | int | str | lst | tup | dct | own (C : Addr)
def Ty.val : Ty → Value
  | .non => .type "NoneType" | .bl => .type "bool" | .int => .type "int" | .str => .type "str" | .lst => .type "list" | .tup => .type "tuple" | .dct => .type "dict" | .own C => .ref C
def tyD (μ : Mu) : D → Option Ty
  | .non => some .non | .bl _ => some .bl | .int _ => some .int | .str _ => some .str | .lst _ => some .lst | .sq _ => some .lst | .tup _ => some .tup | .obj C _ => some (.own C) | .dK _ => some .dct | .dN _ _ => none | .set _ _ => none
  | .ref a => match μ a with
    | some (.lst _) => some .lst
    | some (.dK _) => some .dct
    | some (.ins C _) => some (.own C)
    | _ => none
  | .ty _ => none
/-- what isinstance asks of an own class -/
structure OwnTy (K : PySem.W.Frag) (C : Addr) : Prop where
  cl : Cls K C
  ha : PySem.W.findIn K (.ref C) "__class__" = some (some (.builtin "object.__class__"))
  hn : PySem.W.specialIn K (.builtin "object.__class__") "__get__" = some (some (.builtin "getset_descriptor.__get__"))
  tk : PySem.W.takesIn K (.builtin "object.__class__") = some true
  mo : PySem.W.mroIn K C (.type "object") = some true
section
variable {K : PySem.W.Frag} {μ : Mu} {H : Hp} {v : V} {d : D} {T : Ty}
theorem Da.tyx (j : J K μ H) (h : Da K μ H v d) (e : tyD μ d = some T) (own : ∀ C, T = .own C → OwnTy K C) : TyX K H v T.val := by
  cases d with
  | non => cases h; cases e; exact .base .non
  | bl b => cases h; cases e; exact .base (.bl b)
  | int i => cases h; cases e; exact .base (.int i)
  | str x => cases h; cases e; exact .base (.str x)
  | ty n => cases e
  | lst xs => cases h with | lst n q l => cases e; exact .base (.lst q)
  | sq xs =>
    cases h with | sq q l =>
    cases e
    rcases q with ⟨_, q | ⟨o, q⟩⟩ | ⟨o, its, n, k1, k2, _⟩
    · exact .base (.lst q)
    · exact .base (.frz q)
    · exact .kList k1 k2
  | tup xs =>
    cases h with | tup q l =>
    cases e
    rcases q with ⟨_, o, q, _⟩ | ⟨o, its, n, k1, k2, _⟩
    · exact .fTuple q
    · exact .kTuple k1 k2
  | obj C fs =>
    cases h with | obj n q l =>
    cases e
    have o := own C rfl
    exact .base (.ins q o.cl o.ha o.hn o.tk o.mo)
  | dK kvs =>
    cases h with | dK n q l =>
    cases e
    exact .base (.dK q)
  | dN _ _ => cases e
  | set _ _ => cases e
  | ref a =>
    cases h
    unfold tyD at e
    simp only at e
    split at e
    · rename_i q; cases e; obtain ⟨vs, e1, _⟩ := j a _ q; exact .base (.lst e1)
    · rename_i q; cases e; obtain ⟨vs, e1, _⟩ := j a _ q; exact .base (.dK e1)
    · rename_i C fs q
      cases e
      obtain ⟨dx, fv, e1, _⟩ := j a _ q
      have o := own _ rfl
      exact .base (.ins e1 o.cl o.ha o.hn o.tk o.mo)
    · cases e
end
/-- what isinstance answers, by the type -/
def ansB (k : Ty) (own : Addr → Option Bool) : Ty → Option Bool
  | .own C => own C
  | .non => some (match k with | .non => true | _ => false)
  | .bl => some (match k with | .bl => true | .int => true | _ => false)
  | .int => some (match k with | .int => true | _ => false)
  | .str => some (match k with | .str => true | _ => false)
  | .lst => some (match k with | .lst => true | _ => false)
  | .tup => some (match k with | .tup => true | _ => false)
  | .dct => some (match k with | .dct => true | _ => false)
def ansO (own : Addr → Option Bool) : Ty → Option Bool
  | .own C => own C
  | _ => some false
structure IsA (K : PySem.W.Frag) (c : Value) (ans : Ty → Option Bool) : Prop where
  one : ∀ t b, ans t = some b → PySem.W.kitOne K t.val c = some b
  own : ∀ C b, ans (.own C) = some b → OwnTy K C
theorem isA_b {K : PySem.W.Frag} (k : Ty) (hk : ∀ C, k ≠ .own C) : IsA K k.val (ansB k fun _ => none) where
  one := fun t b e => by
    cases k with
    | own C => exact absurd rfl (hk C)
    | _ => cases t <;> first | (cases e; kernel_rfl) | (cases e; decide +kernel) | cases e
  own := fun C b e => by cases e
theorem isA_o {K : PySem.W.Frag} {C : Addr} {own : Addr → Option Bool} (hc : ((PySem.W.clsIn K C).isSome && PySem.W.typeIn K (.ref C) == some (.type "type")) = true) (h : ∀ C' b, own C' = some b → PySem.W.kitOne K (.ref C') (.ref C) = some b ∧ OwnTy K C') : IsA K (.ref C) (ansO own) where
  one := fun t b e => by
    have k : ∀ T : String, (PySem.fastBuiltinMro T).map (·.contains (Value.ref C)) = some false → PySem.W.kitOne K (.type T) (.ref C) = some false := fun T q => by
      unfold PySem.W.kitOne PySem.W.kitCls
      rw [if_neg (by simp)]
      simp only [hc, if_true]
      exact q
    cases t with
    | own C' => exact (h C' b e).1
    | _ => cases e; exact k _ (by first | rfl | kernel_rfl | decide +kernel)
  own := fun C' b e => (h C' b e).2
section
variable {X : Cx} {G : Gh} {K : PySem.W.Frag} {a b e o : Expr} {es : List Expr} {ta tb te to : DE} {tA : DA} {pos p apos : Pos} {k j : Nat}
def gIsi (ans : Ty → Option Bool) (c : D) : List D → Mu → DQ → Prop := fun ds μ Q => match ds with
  | [x, y] => y = c ∧ ∃ t z, tyD μ x = some t ∧ ans t = some z ∧ Q (.bl z) μ
  | _ => False
theorem DaL.two' {μ : Mu} {H : Hp} {vs : List V} {x y : D} (h : DaL K μ H vs [x, y]) : ∃ v w, vs = [v, w] ∧ Da K μ H v x ∧ Da K μ H w y := by
  cases h with | cons h1 l =>
  cases l with | cons h2 l =>
  cases l
  exact ⟨_, _, rfl, h1, h2⟩
theorem pd_isi {ans : Ty → Option Bool} {c : D} {u : Value} (ia : IsA X.K u ans) (hc : ∀ {μ : Mu} {H : Hp} {w : V}, Da X.K μ H w c → ClsV w u) (hm : X.mg "isinstance" = none) (ha : PDA X G (e :: es) tA) (hg : Gl X "isinstance" := by rfl)
    (he : starEach (e :: es) X.env = (false, eval e X.env) :: starEach es X.env := by rfl) (hpl : (backTo pos (starEach es X.env)).any (·.1) = false := by rfl) : PD X G (.Call (.Name "isinstance" p) (e :: es) [] pos) (dCB (gIsi ans c) tA) := by
  refine pd_b call_isi (@fun xs ds H μ Q Qd jj h g kk => ?_) hm (by decide +kernel) ha hg (by decide) (by decide) he hpl
  unfold gIsi at g
  split at g
  · obtain ⟨v, w, rfl, h1, h2⟩ := h.two'
    obtain ⟨rfl, t, z, e1, e2, q⟩ := g
    exact ⟨v, w, t.val, u, z, rfl, hc h2, h1.tyx jj e1 (fun C hC => ia.own C z (hC ▸ e2)), ia.one t z e2, kk.now jj (.bl z) q⟩
  · exact g.elim
theorem clsv_ty {μ : Mu} {H : Hp} {w : V} {n : String} (h : Da K μ H w (.ty n)) : ClsV w (.type n) := by cases h; exact .ty n
theorem clsv_own {μ : Mu} {H : Hp} {w : V} {C : Addr} (h : Da K μ H w (.ref C)) : ClsV w (.ref C) := by cases h; exact .own C
/-- a built-in type by its name -/
theorem pd_tyname {x : Str} {n : String} (hm : X.mg x = none) (hv : bootBuiltins x = some (.type n)) (hg : Gl X x := by rfl) (hn : x ≠ "__name__" := by decide) (hdb : (x == ("__debug__" : Str)) = false := by decide) : PD X G (.Name x pos) (dC (.ty n)) :=
  pd_k (pe_bltn (v := .ty n) hg hm hv rfl hn hdb) fun _ _ => .ty n

/-! ### truth -/
def TruD (μ : Mu) (d : D) (k : Bool) : Prop := match vw μ d with
  | .non => k = false
  | .bl b => k = b
  | .int i => k = (i != 0)
  | .str y => y.length ≤ sizeLine ∧ k = ((y.length : Int) != 0)
  | .lst xs => k = !xs.isEmpty
  | .sq xs => k = !xs.isEmpty
  | .tup xs => k = !xs.isEmpty
  | _ => False
theorem isEmpty_len {α β : Type} {xs : List α} {ys : List β} (h : xs.length = ys.length) : xs.isEmpty = ys.isEmpty := by
  cases xs <;> cases ys <;> simp_all
theorem Da.tru {μ : Mu} {H : Hp} {v : V} {d : D} {z : Bool} (jj : J K μ H) (h : Da K μ H v d) (t : TruD μ d z) : TruV K v H z := by
  unfold TruD at t
  split at t
  · rename_i q
    rw [vw_inv q (fun _ z => nomatch z)] at h
    cases h; exact t
  · rename_i q
    rw [vw_inv q (fun _ z => nomatch z)] at h
    cases h; exact t
  · rename_i q
    rw [vw_inv q (fun _ z => nomatch z)] at h
    cases h; exact t
  · rename_i q
    have := h.nowStr q
    subst this
    exact t
  · rename_i q
    obtain ⟨a, vs, rfl, ea, l⟩ := h.nowL jj q
    exact .inl ⟨vs, SqL.of ea, by rw [isEmpty_len l.length]; exact t⟩
  · rename_i q
    obtain ⟨a, vs, rfl, ea, l⟩ := h.nowS jj q
    exact .inl ⟨vs, ea, by rw [isEmpty_len l.length]; exact t⟩
  · rename_i q
    obtain ⟨a, vs, rfl, ea, l⟩ := h.nowT jj q
    exact .inr (.inl ⟨vs, ea, by rw [isEmpty_len l.length]; exact t⟩)
  · exact t.elim
def dOrV (ta tb : DE) : DE := fun ρ μ Q => ta ρ μ fun x μ1 => ∃ z, TruD μ1 x z ∧ if z = true then Q x μ1 else tb ρ μ1 Q
theorem pd_orV {rest : List Expr} (ha : PD X G a ta) (hb : PD X G (.BoolOp .Or (b :: rest) pos) tb) : PD X G (.BoolOp .Or (a :: b :: rest) pos) (dOrV ta tb) := by
  obtain ⟨ea, pa, fa⟩ := ha.ex
  obtain ⟨eb, pb, fb⟩ := hb.ex
  refine ⟨_, pe_orT pa pb, @fun σ H ρ μ Q Qd o t kk => ?_⟩
  refine fa o t fun x dx H1 μ1 g1 j1 h1 t1 => ?_
  obtain ⟨z, tz, t1⟩ := t1
  refine ⟨z, h1.tru j1 tz, ?_⟩
  cases z with
  | true => exact iteT ((kk.after g1).now j1 h1 (by simpa using t1))
  | false => exact iteF (fb (o.grow g1 j1) (by simpa using t1) (kk.after g1))
/-- a value as a test -/
def dTru (te : DE) : DT := fun ρ μ Q => te ρ μ fun x μ1 => ∃ z, TruD μ1 x z ∧ Q z μ1
theorem pt_tru (h : PD X G e te) (he : ∀ whole, isTrue e X.env whole = (do let v ← whole; standAt e.pos; holding [v] (truthy v)) := by intro _; rfl) : PDT X G e (dTru te) := by
  obtain ⟨ea, pa, fa⟩ := h.ex
  refine ⟨_, pt_truth pa he, @fun σ H ρ μ Q Qd o t kk => ?_⟩
  refine fa o t fun x dx H1 μ1 g1 j1 h1 t1 => ?_
  obtain ⟨z, tz, t1⟩ := t1
  exact ⟨z, h1.tru j1 tz, kk z _ _ g1 j1 t1⟩

/-! ### numbers, texts -/
def gAbs : List D → Mu → DQ → Prop := fun ds μ Q => match ds with
  | [.int i] => Q (.int (if i < 0 then -i else i)) μ
  | _ => False
theorem pd_abs (hm : X.mg "abs" = none) (ha : PD X G a ta) (hg : Gl X "abs" := by rfl) (hs : starEach [a] X.env = (false, eval a X.env) :: starEach [] X.env := by rfl) : PD X G (.Call (.Name "abs" p) [a] [] pos) (dCB gAbs (dCons ta dNil)) := by
  refine pd_b call_abs (@fun xs ds H μ Q Qd jj h g kk => ?_) hm (by decide +kernel) (pda_cons ha pda_nil hs) hg (by decide) (by decide) hs rfl
  unfold gAbs at g
  split at g
  · obtain ⟨v, rfl, hv⟩ := h.one
    cases hv
    exact ⟨_, rfl, kk.now jj (.int _) g⟩
  · exact g.elim
/-- // by any number that is not too long -/
def gDivA : G2 := gI (fun _ j => j ≠ 0 ∧ j.natAbs.log2 < 9000) fun i j => .int (Int.fdiv i j)
theorem op_divA : OpR X (binaryOp .FloorDiv) (rI (fun _ j => j ≠ 0 ∧ j.natAbs.log2 < 9000) fun i j => .int (Int.fdiv i j)) := opI fun i j _ _ _ _ _ hc q => floordiv_int hc.1 q (.inl (PyProof.noPylong_of_log2 hc.2))
theorem pd_divA (ha : PD X G a ta) (hb : PD X G b tb) : PD X G (.BinOp a .FloorDiv b pos) (dOp gDivA ta tb) := pd_op op_divA (lf_I fun _ _ => .int _) ha hb
def gMulW : G2 := gI CMulW fun i j => .int (i * j)
theorem pd_mulW (ha : PD X G a ta) (hb : PD X G b tb) : PD X G (.BinOp a .Mult b pos) (dOp gMulW ta tb) := pd_op op_mulW (lf_I fun _ _ => .int _) ha hb
def gStrI : List D → Mu → DQ → Prop := fun ds μ Q => match ds with
  | [.int i] => i.natAbs.log2 < 1920 ∧ Q (.str (toString i)) μ
  | _ => False
theorem pd_strI (hm : X.mg "str" = none) (ha : PD X G a ta) (hg : Gl X "str" := by rfl) (hs : starEach [a] X.env = (false, eval a X.env) :: starEach [] X.env := by rfl) : PD X G (.Call (.Name "str" p) [a] [] pos) (dCB gStrI (dCons ta dNil)) := by
  refine pd_ty call_str_int (@fun xs ds H μ Q Qd jj h g kk => ?_) hm (by decide +kernel) (pda_cons ha pda_nil hs) hg (by decide) (by decide) hs rfl
  unfold gStrI at g
  split at g
  · obtain ⟨v, rfl, hv⟩ := h.one
    cases hv
    exact ⟨_, rfl, g.1, kk.now jj (.str _) g.2⟩
  · exact g.elim
def gBoolI : List D → Mu → DQ → Prop := fun ds μ Q => match ds with
  | [.int i] => Q (.bl (i != 0)) μ
  | [.bl z] => Q (.bl z) μ
  | _ => False
theorem pd_boolI (hm : X.mg "bool" = none) (ha : PD X G a ta) (hg : Gl X "bool" := by rfl) (hs : starEach [a] X.env = (false, eval a X.env) :: starEach [] X.env := by rfl) : PD X G (.Call (.Name "bool" p) [a] [] pos) (dCB gBoolI (dCons ta dNil)) := by
  refine pd_ty call_bool1 (@fun xs ds H μ Q Qd jj h g kk => ?_) hm (by decide +kernel) (pda_cons ha pda_nil hs) hg (by decide) (by decide) hs rfl
  unfold gBoolI at g
  split at g
  · obtain ⟨v, rfl, hv⟩ := h.one
    cases hv
    exact .inl ⟨_, rfl, kk.now jj (.bl _) g⟩
  · obtain ⟨v, rfl, hv⟩ := h.one
    cases hv
    exact .inr ⟨_, rfl, kk.now jj (.bl _) g⟩
  · exact g.elim
def gTuple : List D → Mu → DQ → Prop := fun ds μ Q => match ds with
  | [d] => match vw μ d with
    | .lst xs => Q (.tup xs) μ
    | .sq xs => Q (.tup xs) μ
    | .tup xs => Q (.tup xs) μ
    | _ => False
  | _ => False
theorem pd_tuple (hm : X.mg "tuple" = none) (ha : PD X G a ta) (hg : Gl X "tuple" := by rfl) (hs : starEach [a] X.env = (false, eval a X.env) :: starEach [] X.env := by rfl) : PD X G (.Call (.Name "tuple" p) [a] [] pos) (dCB gTuple (dCons ta dNil)) := by
  refine pd_ty call_tupleF (@fun xs ds H μ Q Qd jj h g kk => ?_) hm (by decide +kernel) (pda_cons ha pda_nil hs) hg (by decide) (by decide) hs rfl
  unfold gTuple at g
  split at g
  · obtain ⟨v, rfl, hv⟩ := h.one
    split at g
    · rename_i q
      obtain ⟨a, vs, rfl, ea, l⟩ := hv.nowL jj q
      exact ⟨a, vs, rfl, .inl ⟨SqL.of ea, fun p ob n z => kk.new jj n (da_tup z jj n l) g⟩⟩
    · rename_i q
      obtain ⟨a, vs, rfl, ea, l⟩ := hv.nowS jj q
      exact ⟨a, vs, rfl, .inl ⟨ea, fun p ob n z => kk.new jj n (da_tup z jj n l) g⟩⟩
    · rename_i xs q
      have hd := vw_inv q (fun _ z => nomatch z)
      rw [hd] at hv
      cases hv with | tup e l =>
      exact ⟨_, _, rfl, .inr ⟨Da.sqT e, kk.now jj (.tup e l) g⟩⟩
    · exact g.elim
  · exact g.elim
/-- f-strings -/
def dFmt (te : DE) : DE := fun ρ μ Q => te ρ μ fun x μ1 => match x with
  | .str y => y.length ≤ sizeLine ∧ Q (.str y) μ1
  | .int i => i.natAbs.log2 < 1920 ∧ Q (.str (toString i)) μ1
  | _ => False
theorem pd_fmt (h : PD X G e te) : PD X G (.FormattedValue e (-1) none pos) (dFmt te) := by
  obtain ⟨ea, pa, fa⟩ := h.ex
  refine ⟨_, pe_fmt pa, @fun σ H ρ μ Q Qd o t kk => ?_⟩
  refine fa o t fun x dx H1 μ1 g1 j1 h1 t1 => ?_
  split at t1
  · cases h1; exact .inl ⟨_, rfl, t1.1, (kk.after g1).now j1 (.str _) t1.2⟩
  · cases h1; exact .inr ⟨_, rfl, t1.1, (kk.after g1).now j1 (.str _) t1.2⟩
  · exact t1.elim
inductive PDJ (X : Cx) (G : Gh) : List Expr → List DE → Prop where
  | nil : PDJ X G [] []
  | cons {e : Expr} {t : DE} {es : List Expr} {ts : List DE} (h : PD X G e t) (r : PDJ X G es ts) : PDJ X G (e :: es) (t :: ts)
def dJs : List DE → Str → Ro → Mu → (Str → Mu → Prop) → Prop
  | [], acc, _, μ, Q => Q acc μ
  | t :: ts, acc, ρ, μ, Q => t ρ μ fun x μ1 => match x with
    | .str y => (acc ++ y).length ≤ sizeLine ∧ dJs ts (acc ++ y) ρ μ1 Q
    | _ => False
theorem pdj_run {es : List Expr} {ts : List DE} (h : PDJ X G es ts) : ∃ us, PJ X es us ∧ ∀ {acc : Str} {σ : L2.St} {H : Hp} {ρ : Ro} {μ : Mu} {Q : Str → Hp → Prop} {Qd : Str → Mu → Prop}, Okd X.K G μ H σ ρ → dJs ts acc ρ μ Qd → (∀ out H' μ', Gr μ H μ' H' → J X.K μ' H' → Qd out μ' → Q out H') → tJs us acc σ H Q := by
  induction h with
  | nil => exact ⟨_, .nil, @fun acc σ H ρ μ Q Qd o t kk => kk acc H μ Gr.refl o.j t⟩
  | cons h r ih =>
    obtain ⟨ea, pa, fa⟩ := h.ex
    obtain ⟨us, pj, f⟩ := ih
    refine ⟨_, .cons pa pj, @fun acc σ H ρ μ Q Qd o t kk => ?_⟩
    refine fa o t fun x dx H1 μ1 g1 j1 h1 t1 => ?_
    split at t1
    · cases h1
      exact ⟨_, rfl, t1.1, f (o.grow g1 j1) t1.2 fun out H' μ' g' j' q' => kk out H' μ' (g1.trans g') j' q'⟩
    · exact t1.elim
def dJoin (ts : List DE) : DE := fun ρ μ Q => dJs ts Str.empty ρ μ fun out μ1 => Q (.str out) μ1
theorem pd_joined {v1 v2 : Expr} {rest : List Expr} {ts : List DE} (h : PDJ X G (v1 :: v2 :: rest) ts) : PD X G (.JoinedStr (v1 :: v2 :: rest) pos) (dJoin ts) := by
  obtain ⟨us, pj, f⟩ := pdj_run h
  exact ⟨_, pe_joined pj, @fun σ H ρ μ Q Qd o t kk => f o t fun out H' μ' g' j' q' => kk _ _ _ _ g' j' (.str out) q'⟩
theorem pd_joined1 (h : PD X G e te) : PD X G (.JoinedStr [e] pos) te := by
  obtain ⟨ea, pa, fa⟩ := h.ex
  exact ⟨_, pe_joined1 pa, @fun σ H ρ μ Q Qd o t kk => fa o t kk⟩
end
end Dl

/-! Operators of own classes: a + b, a == b, a != b, a in o, o[i], len(o), bool(o), str(o). -/
namespace PySem.W
open PySem PySem.Calls PyProof.Rows Builtin
section
variable {prog : Program} {w : World} {A : Around} {E : Value → Shared → Prop} {s : Shared} {K : Frag} {x C f : Addr} {ox : Obj} {od : Option Obj} {b tb : Value}
/-- != of an own class that has == alone -/
theorem dl_ne {Q : Value → Shared → Prop} (hu : A.units + 1 < cLine) (X : K.In s.heap) (I : InstAt s.heap x ox C od) (hb : Looks (model prog w) s.heap (typeOf b) tb) (hn : notFirst K C tb = true)
    (hne : findIn K (.ref C) "__ne__" = some (some (.builtin "object.__ne__"))) (hm : mroIn K C (.type "object") = some true) (hs : findIn K (.ref C) "__eq__" = some (some (.ref f))) (hf : isFn K (.ref f) = true)
    (h : wpAny (model prog w) A.in1 (call (.ref f) [.ref x, b]) (fun v s' => ∃ z, v = .bool z ∧ Q (.bool (!z)) s') E s) : wpAny (model prog w) A (richCompare .NotEq (.ref x) b) Q E s := by
  have entry : wpAny (model prog w) A.in1 (Builtin.«object.__ne__» ⟨[.ref x, b], []⟩) (fun fin s' => match fin with | .done (.ret v) => Q v s' ∧ v ≠ .notImplemented | _ => False) E s := by
    unfold Builtin.«object.__ne__»
    refine wpAny_bind (m := slotArgs "__ne__" 1 _) (wpAny_pure ?_)
    refine wpAny_bind (m := cRoomFor _ _) (wpAny_cRoomFor hu ?_)
    refine wpAny_bind (m := callSpecialIfBound? (.ref x) (Str.ofString "__eq__") [b]) (ifBound_K X I hs hf (wpAny_mono h (fun v s' hv => ?_) fun _ _ e => e))
    obtain ⟨z, rfl, hq⟩ := hv
    exact wpAny_bind (m := truthy (.bool z)) (wpAny_truthy_bool (wpAny_pure ⟨hq, fun q => nomatch q⟩))
  have t2 : Looks (model prog w) s.heap (isInstance (.ref x) (.type "object")) true := I.type.andThen (looks_mroIn X hm)
  have code : codeAny (model prog w) A (.call (.builtin "object.__ne__") ⟨[.ref x, b], []⟩) (fun r s' => match r with | .ok (.ret v) => Q v s' ∧ v ≠ .notImplemented | .ok _ => False | .error e => E e s') s := by
    refine codeAny_call_builtin (by decide +kernel) F.cmpEntry_ne (@check_slot (model prog w) _ _ _ "object.__ne__" "object" "__ne__" (.ref x) [b] [] _ F.cmpKind_ne F.cmpSplit_ne t2 (F.cmpArgs_ne _ _) ?_)
    refine wpAny_mono entry (fun fin s' hq => ?_) fun _ _ e => e
    cases fin with
    | done fl => cases fl <;> first | exact hq | exact hq.elim
    | again c => exact hq.elim
  have one : wpAny (model prog w) A (tryCompare (.ref x) "__ne__" b) (fun r s' => ∃ v, r = some v ∧ Q v s') E s := by
    unfold tryCompare
    simp only [callSpecialIfBound?, bindSpecialIfBound?]
    refine wpAny_bind (wpAny_holding (wpAny_bind (wpAny_bind (wpAny_bind (I.type.here ((looks_findIn X hne).here ?_))))))
    refine wpAny_bind (wpAny_askSetting (wpAny_ite ?_))
    have bd : bindSpecial (.builtin "object.__ne__") (.ref x) = pure (.builtin "object.__ne__", [.ref x]) := F.slot_object_ne.bind (.ref x)
    have fin : wpAny (model prog w) A (call (.builtin "object.__ne__") ([.ref x] ++ [b]) >>= fun v => pure (some v)) (fun r s' => wpAny (model prog w) A (match r with | some .notImplemented => pure none | none => pure none | some v => pure (some v)) (fun r s' => ∃ v, r = some v ∧ Q v s') E s') E s := by
      refine wpAny_bind (wpAny_call (codeAny_mono code fun r s' hr => ?_))
      match r, hr with
      | .error e, hr => exact hr
      | .ok (.ret v), hr =>
        refine wpAny_pure ?_
        cases v <;> first | exact absurd rfl hr.2 | exact wpAny_pure ⟨_, rfl, hr.1⟩
    split
    · exact wpAny_bind (by rw [bd]; exact wpAny_pure (wpAny_pure fin))
    · exact wpAny_tryCatch (wpAny_bind (by rw [bd]; exact wpAny_pure (wpAny_pure fin)))
  unfold richCompare; simp only [oneThing_ref]
  have last : ∀ {k : Option Value → Sem Value}, (∀ v, k (some v) = pure v) → wpAny (model prog w) A (tryCompare (.ref x) "__ne__" b >>= k) Q E s := fun hk => wpAny_bind (wpAny_mono one (fun r s' ⟨v, er, hv⟩ => by rw [er, hk]; exact wpAny_pure hv) fun _ _ y => y)
  refine wpAny_holding (wpAny_bind (wpAny_cRoomFor (by omega) (wpAny_bind (I.type.here (wpAny_bind (hb.here ?_))))))
  split
  · rename_i nq
    have sf : subIn K tb (.ref C) = some false := (Bool.or_eq_true_iff.mp hn).elim (fun y => by rw [beq_iff_eq.mp y] at nq; simp at nq) fun y => beq_iff_eq.mp y
    refine wpAny_bind ((looks_subIn X sf).here ?_)
    simp only [if_false, Bool.false_eq_true]
    exact last fun _ => rfl
  · refine wpAny_bind (wpAny_pure ?_); simp only [if_false, Bool.false_eq_true]
    exact last fun _ => rfl
/-- bool(o) -/
theorem dl_bool {Q : Value → Shared → Prop} (X : K.In s.heap) (I : InstAt s.heap x ox C od) (hs : findIn K (.ref C) "__bool__" = some (some (.ref f))) (hf : isFn K (.ref f) = true)
    (h : wpAny (model prog w) A.in1.in1 (call (.ref f) [.ref x]) (fun v s' => ∃ z, v = .bool z ∧ Q (.bool z) s') E s) : wpAny (model prog w) A (call (.type "bool") [.ref x]) Q E s := by
  refine callType_codes (T := "bool") (Bi := Builtin.«object.__init__») (Q₁ := fun r s₁ => ∃ z, r = .bool z ∧ Q r s₁) PySem.F.called_bool (PySem.F.typeCall_bool_1 _) PySem.F.entry_object_init ?_ ?_
  · refine codeAny_of_tree ?_
    show wpAny _ A.in1.in1 (do checkBuiltinCall "bool.__new__" ⟨[.type "bool", .ref x], []⟩; again (.builtin "bool.__new__" ⟨[.type "bool", .ref x], []⟩)) _ _ s
    refine wpAny_bind (wpAny_of_eq (PySem.F.newCall_bool_1 _) (wpAny_pure ⟨plainId_quiet (by decide +kernel) _, codeAny_builtin PySem.F.entry_bool_new ?_⟩))
    rw [Around.under_plainId (by decide +kernel) ⟨[.type "bool", .ref x], []⟩]
    have tr : wpAny (model prog w) A.in1.in1 (truthy (.ref x)) (fun z s' => Q (.bool z) s') E s := by
      unfold truthy
      refine wpAny_bind (m := callSpecial? (.ref x) (Str.ofString "__bool__")) (special_fn X I hs (beq_iff_eq.mp hf) (wpAny_mono h (fun r s' hr => ?_) fun _ _ y => y))
      obtain ⟨z, rfl, hq⟩ := hr
      exact wpAny_pure hq
    have f1 := F.conv_sub_bool
    unfold Builtin.«bool.__new__»
    repeat (any_goals (first | assumption | (refine wpAny_bind (m := truthy (.ref x)) (wpAny_mono tr (fun z s' hz => ?_) fun _ _ y => y)) | wp_step))
    all_goals first | exact ⟨_, rfl, hz⟩ | exact wpAny_pure ⟨_, rfl, hz⟩ | exact ⟨_, _, rfl, hz⟩ | skip
  · rintro obj s₁ ⟨y, rfl, hq⟩
    exact ⟨rfl, PySem.F.args_object_init_2 _ _, object_init_meets PySem.F.called_bool.init.lookup PySem.F.called_bool.made (by decide) prog w A.in1 _ s₁ ⟨rfl, rfl, hq⟩⟩
end
end PySem.W
namespace Dl
open PySem PySem.Spec PyProof.Rows L2
section
variable {X : Cx} {G : Gh} {pins : List (Addr × Obj)} {σ : L2.St} {H : Hp} {s : Shared} {k j : Nat} {f C : Addr} {fd : FuncData} {ps : List Str} {spd : SpD} {A : Around} {E : Value → Shared → Prop} {R : Value → Shared → Prop} {us : List Value} {vs : List V} {μ : Mu} {ds : List D} {d : D} {v : V} {Qd : DQ} {name : Str}
  {a b e : Expr} {ta tb te : DE} {pos p : Pos}
/-- a method that stands behind an operator -/
structure Dun (P : Program) (w : World) (K : PySem.W.Frag) (mg : Str → Option Value) (base : Heap) (C : Addr) (name : Str) (k : Nat) (spd : SpD) : Prop where
  ex : ∃ f fd ps, PySem.W.findIn K (.ref C) name = some (some (.ref f)) ∧ PySem.W.isFn K (.ref f) = true ∧ FnG P w K mg base CX0 k f fd ps (up K spd) ∧ Binds K fd ps []
theorem dun_at (F : FnG X.prog X.w X.K X.mg X.base CX0 k f fd ps (up X.K spd)) (hb : Binds X.K fd ps []) (hgu : A.guards = some []) (hr : Room k A) (I : Inv X pins σ H s) (e0 : Env0 X.prog X.w X.K X.mg X.base A X.stack s H) (hv : Vals vs us) (jj : J X.K μ H) (l : DaL X.K μ H vs ds) (q : spd ds μ Qd)
    (h : ∀ u s', EP X pins σ (KD X.K μ H Qd) u s' → R u s') : wpAny (model X.prog X.w) A (call (.ref f) us) R E s := by
  have hl : us.length = ps.length := hv.length.symm.trans (F.arity (E := E0) ⟨ds, μ, Qd, jj, l, q, ktKD⟩)
  have bt := hb s us I.kIn (by rw [List.append_nil]; exact hl)
  rw [List.append_nil] at bt
  exact run_at (ks := []) (ws := []) F hgu hr I e0 bt hv jj l q h
theorem inst_at {fs : List (Str × D)} (I : Inv X pins σ H s) (jj : J X.K μ H) (h : Da X.K μ H v d) (e1 : oin μ d = some (C, fs)) : ∃ x ox od, v = .ref x ∧ PySem.W.InstAt s.heap x ox C od := by
  obtain ⟨x, dx, fv, rfl, ea, l⟩ := h.ins jj e1
  obtain ⟨mA, O, _⟩ := ins_get I.hok ea
  obtain ⟨od, Jn, _⟩ := O.look
  exact ⟨x, _, _, rfl, Jn⟩
/-- a + b and the like -/
def gDun (C : Addr) (spd : SpD) : G2 := fun x y μ Q => (∃ fs, oin μ x = some (C, fs)) ∧ (∃ fs, oin μ y = some (C, fs)) ∧ spd [x, y] μ Q
theorem op_dun {op : Operator} (Du : Dun X.prog X.w X.K X.mg X.base C (PySem.dunder op.info.2) k spd) (sf : PySem.W.selfFirst X.K C = true) (hr : Room k X.A) (hgu : X.A.guards = some []) : OpR X (binaryOp op) (rG X.K (gDun C spd)) := by
  rintro pins s σ H x y u w Q I rx ry ⟨dx, dy, μ, Qd, jj, hx, hy, ⟨⟨fs, e1⟩, ⟨fs', e2⟩, q⟩, kk⟩
  obtain ⟨f, fd, ps, h1, h2, F, hb⟩ := Du.ex
  obtain ⟨m, Fr⟩ := I.fr
  obtain ⟨ax, ox, od, rfl, Jx⟩ := inst_at I jj hx e1
  obtain ⟨ay, oy, od', rfl, Jy⟩ := inst_at I jj hy e2
  obtain rfl : u = Value.ref ax := rx
  obtain rfl : w = Value.ref ay := ry
  refine PySem.W.binop_K Fr I.ok.mod.kin Jx Jy.type sf h1 h2 (dun_at F hb hgu hr I I.env0 (vs := [.ref ax, .ref ay]) (.cons rfl (.cons rfl .nil)) jj (.cons hx (.cons hy .nil)) q ?_)
  rintro r s' ⟨v, H3, I3, ru, d, μ3, g3, j3, h3, q3⟩
  have fin : EP X pins σ Q r s' := ⟨v, H3, I3, ru, kk _ _ _ _ g3 j3 h3 q3⟩
  cases v <;> first | (obtain ⟨t, rfl⟩ := ru; exact fin) | (have er := ru; simp only [RelV] at er; subst er; exact fin)
theorem pd_dun {op : Operator} (Du : Dun X.prog X.w X.K X.mg X.base C (PySem.dunder op.info.2) k spd) (sf : PySem.W.selfFirst X.K C = true) (hr : Room j X.A) (hgu : X.A.guards = some []) (ha : PD X G a ta) (hb : PD X G b tb) (hk : k ≤ j := by decide) : PD X G (.BinOp a op b pos) (dOp (gDun C spd) ta tb) :=
  pd_op (op_dun Du sf (hr.mono hk) hgu) lf_rG ha hb
/-- which types == asks first: not theirs -/
structure EqAsk (K : PySem.W.Frag) (C : Addr) (ok : Ty → Bool) : Prop where
  nf : ∀ t, ok t = true → PySem.W.notFirst K C t.val = true
  own : ∀ C', ok (.own C') = true → OwnTy K C'
theorem ty_looks {M : Model} {u : Value} {t : Ty} (I : Inv X pins σ H s) (jj : J X.K μ H) (h : Da X.K μ H v d) (r : RelV v u) (e1 : tyD μ d = some t) (own : ∀ C, t = .own C → OwnTy X.K C) : PySem.W.Looks M s.heap (typeOf u) t.val := by
  obtain ⟨P, Z, p, _⟩ := kit_of I r (h.tyx jj e1 own)
  exact Z.ty M _ I.kIn p
def gCmpO (C : Addr) (ok : Ty → Bool) (spd : SpD) : G2 := fun x y μ Q => (∃ fs, oin μ x = some (C, fs)) ∧ (∃ t, tyD μ y = some t ∧ ok t = true) ∧ spd [x, y] μ fun r μ' => ∃ z, r = .bl z ∧ Q (.bl z) μ'
theorem op_eqO {ok : Ty → Bool} (Du : Dun X.prog X.w X.K X.mg X.base C "__eq__" k spd) (ea : EqAsk X.K C ok) (hr : Room k X.A) (hgu : X.A.guards = some []) : OpR X (compareOp .Eq) (rG X.K (gCmpO C ok spd)) := by
  rintro pins s σ H x y u w Q I rx ry ⟨dx, dy, μ, Qd, jj, hx, hy, ⟨⟨fs, e1⟩, ⟨t, e2, e3⟩, q⟩, kk⟩
  obtain ⟨f, fd, ps, h1, h2, F, hb⟩ := Du.ex
  obtain ⟨m, Fr⟩ := I.fr
  obtain ⟨ax, ox, od, rfl, Jx⟩ := inst_at I jj hx e1
  obtain rfl : u = Value.ref ax := rx
  have tl := ty_looks (M := model X.prog X.w) I jj hy ry e2 fun C' hC => ea.own C' (hC ▸ e3)
  show wpAny _ _ (richCompare .Eq (.ref ax) w) _ _ s
  refine PySem.W.cmp_K hr.units0 Fr I.ok.mod.kin Jx tl (ea.nf t e3) h1 h2 (dun_at F hb hgu hr I I.env0 (vs := [.ref ax, y]) (.cons rfl (.cons ry .nil)) jj (.cons hx (.cons hy .nil)) q ?_)
  rintro r s' ⟨v, H3, I3, ru, d, μ3, g3, j3, h3, z, rfl, q3⟩
  cases h3
  cases (show r = Value.bool z from ru)
  exact ⟨.bl z, H3, I3, rfl, kk _ _ _ _ g3 j3 (.bl z) q3⟩
def gCmpN (C : Addr) (ok : Ty → Bool) (spd : SpD) : G2 := fun x y μ Q => (∃ fs, oin μ x = some (C, fs)) ∧ (∃ t, tyD μ y = some t ∧ ok t = true) ∧ spd [x, y] μ fun r μ' => ∃ z, r = .bl z ∧ Q (.bl (!z)) μ'
structure NeObj (K : PySem.W.Frag) (C : Addr) : Prop where
  ne : PySem.W.findIn K (.ref C) "__ne__" = some (some (.builtin "object.__ne__"))
  mo : PySem.W.mroIn K C (.type "object") = some true
theorem op_neO {ok : Ty → Bool} (Du : Dun X.prog X.w X.K X.mg X.base C "__eq__" k spd) (no : NeObj X.K C) (ea : EqAsk X.K C ok) (hr : Room (k + 1) X.A) (hgu : X.A.guards = some []) : OpR X (compareOp .NotEq) (rG X.K (gCmpN C ok spd)) := by
  rintro pins s σ H x y u w Q I rx ry ⟨dx, dy, μ, Qd, jj, hx, hy, ⟨⟨fs, e1⟩, ⟨t, e2, e3⟩, q⟩, kk⟩
  obtain ⟨f, fd, ps, h1, h2, F, hb⟩ := Du.ex
  obtain ⟨ax, ox, od, rfl, Jx⟩ := inst_at I jj hx e1
  obtain rfl : u = Value.ref ax := rx
  have tl := ty_looks (M := model X.prog X.w) I jj hy ry e2 fun C' hC => ea.own C' (hC ▸ e3)
  show wpAny _ _ (richCompare .NotEq (.ref ax) w) _ _ s
  refine PySem.W.dl_ne (by have := hr.units; omega) I.kIn Jx tl (ea.nf t e3) no.ne no.mo h1 h2 (dun_at F hb hgu hr.in1 I I.env0.in1 (vs := [.ref ax, y]) (.cons rfl (.cons ry .nil)) jj (.cons hx (.cons hy .nil)) q ?_)
  rintro r s' ⟨v, H3, I3, ru, d, μ3, g3, j3, h3, z, rfl, q3⟩
  cases h3
  cases (show r = Value.bool z from ru)
  exact ⟨z, rfl, .bl (!z), H3, I3, rfl, kk _ _ _ _ g3 j3 (.bl (!z)) q3⟩
theorem pd_eqO {ok : Ty → Bool} (Du : Dun X.prog X.w X.K X.mg X.base C "__eq__" k spd) (ea : EqAsk X.K C ok) (hr : Room j X.A) (hgu : X.A.guards = some []) (ha : PD X G a ta) (hb : PD X G b tb) (hk : k ≤ j := by decide) : PD X G (.Compare a [.Eq] [b] pos) (dOp (gCmpO C ok spd) ta tb) := pd_cmp (op_eqO Du ea (hr.mono hk) hgu) lf_rG ha hb (nomark _)
theorem pt_eqO {ok : Ty → Bool} (Du : Dun X.prog X.w X.K X.mg X.base C "__eq__" k spd) (ea : EqAsk X.K C ok) (hr : Room j X.A) (hgu : X.A.guards = some []) (ha : PD X G a ta) (hb : PD X G b tb) (hk : k ≤ j := by decide) : PDT X G (.Compare a [.Eq] [b] pos) (dB (dOp (gCmpO C ok spd) ta tb)) := pt_c (op_eqO Du ea (hr.mono hk) hgu) lf_rG ha hb (nomark _)
theorem pd_neO {ok : Ty → Bool} (Du : Dun X.prog X.w X.K X.mg X.base C "__eq__" k spd) (no : NeObj X.K C) (ea : EqAsk X.K C ok) (hr : Room j X.A) (hgu : X.A.guards = some []) (ha : PD X G a ta) (hb : PD X G b tb) (hk : k + 1 ≤ j := by decide) : PD X G (.Compare a [.NotEq] [b] pos) (dOp (gCmpN C ok spd) ta tb) := pd_cmp (op_neO Du no ea (hr.mono hk) hgu) lf_rG ha hb (nomark _)
theorem pt_neO {ok : Ty → Bool} (Du : Dun X.prog X.w X.K X.mg X.base C "__eq__" k spd) (no : NeObj X.K C) (ea : EqAsk X.K C ok) (hr : Room j X.A) (hgu : X.A.guards = some []) (ha : PD X G a ta) (hb : PD X G b tb) (hk : k + 1 ≤ j := by decide) : PDT X G (.Compare a [.NotEq] [b] pos) (dB (dOp (gCmpN C ok spd) ta tb)) := pt_c (op_neO Du no ea (hr.mono hk) hgu) lf_rG ha hb (nomark _)
/-- bool(o), str(o), len(o) -/
def gOne (C : Addr) (spd : SpD) (G : D → Mu → DQ → Prop) : List D → Mu → DQ → Prop := fun ds μ Q => match ds with
  | [x] => (∃ fs, oin μ x = some (C, fs)) ∧ spd [x] μ fun r μ' => G r μ' Q
  | _ => False
def isBl : D → Mu → DQ → Prop := fun r μ Q => ∃ z, r = .bl z ∧ Q r μ
def isStr : D → Mu → DQ → Prop := fun r μ Q => ∃ z, r = .str z ∧ Q r μ
def isLen : D → Mu → DQ → Prop := fun r μ Q => ∃ z, r = .int z ∧ 0 ≤ z ∧ z < 2 ^ 63 ∧ Q r μ
theorem Room.in2 {n : Nat} (hr : Room (n + 1) A) : Room n A.in1.in1 := ⟨hr.hd, by have := hr.dp; show A.depth + 3 * n + 5 < _; omega, by have := hr.un; show A.units + 1 + 1 + 16 * n + 200 < _; omega⟩
theorem call_boolO (Du : Dun X.prog X.w X.K X.mg X.base C "__bool__" k spd) (hr : Room (k + 1) X.A) (hgu : X.A.guards = some []) : CallR X (.type "bool") (rGL X.K (gOne C spd isBl)) := by
  rintro pins s σ H xs us Q I r ⟨ds, μ, Qd, jj, l, q, kk⟩
  unfold gOne at q
  split at q
  · obtain ⟨f, fd, ps, h1, h2, F, hb⟩ := Du.ex
    obtain ⟨v, rfl, hv⟩ := l.one
    obtain ⟨⟨fs, e1⟩, q⟩ := q
    obtain ⟨ax, ox, od, rfl, Jx⟩ := inst_at I jj hv e1
    obtain rfl := Vals.ref1 r
    refine PySem.W.dl_bool I.kIn Jx h1 h2 (dun_at F hb hgu (Room.in2 hr) I I.env0.in1.in1 (vs := [.ref ax]) (.cons rfl .nil) jj (.cons hv .nil) q ?_)
    rintro r s' ⟨v, H3, I3, ru, d, μ3, g3, j3, h3, z, rfl, q3⟩
    cases h3
    cases (show r = Value.bool z from ru)
    exact ⟨z, rfl, .bl z, H3, I3, rfl, kk _ _ _ _ g3 j3 (.bl z) q3⟩
  · exact q.elim
theorem call_strO (Du : Dun X.prog X.w X.K X.mg X.base C "__str__" k spd) (hr : Room (k + 1) X.A) (hgu : X.A.guards = some []) : CallR X (.type "str") (rGL X.K (gOne C spd isStr)) := by
  rintro pins s σ H xs us Q I r ⟨ds, μ, Qd, jj, l, q, kk⟩
  unfold gOne at q
  split at q
  · obtain ⟨f, fd, ps, h1, h2, F, hb⟩ := Du.ex
    obtain ⟨v, rfl, hv⟩ := l.one
    obtain ⟨⟨fs, e1⟩, q⟩ := q
    obtain ⟨ax, ox, od, rfl, Jx⟩ := inst_at I jj hv e1
    obtain rfl := Vals.ref1 r
    refine PySem.W.kso_call (Room.in2 hr).units0 I.kIn Jx h1 h2 (dun_at F hb hgu (Room.in2 hr) I I.env0.in1.in1 (vs := [.ref ax]) (.cons rfl .nil) jj (.cons hv .nil) q ?_)
    rintro r s' ⟨v, H3, I3, ru, d, μ3, g3, j3, h3, z, rfl, q3⟩
    cases h3
    obtain ⟨t, rfl⟩ := (show ∃ t, r = Value.str z t from ru)
    exact ⟨.str z, H3, I3, ⟨_, rfl⟩, kk _ _ _ _ g3 j3 (.str z) q3⟩
  · exact q.elim
theorem call_lenO (Du : Dun X.prog X.w X.K X.mg X.base C "__len__" k spd) (hr : Room (k + 1) X.A) (hgu : X.A.guards = some []) : CallR X (.builtin "len") (rGL X.K (gOne C spd isLen)) := by
  rintro pins s σ H xs us Q I r ⟨ds, μ, Qd, jj, l, q, kk⟩
  unfold gOne at q
  split at q
  · obtain ⟨f, fd, ps, h1, h2, F, hb⟩ := Du.ex
    obtain ⟨v, rfl, hv⟩ := l.one
    obtain ⟨⟨fs, e1⟩, q⟩ := q
    obtain ⟨m, Fr⟩ := I.fr
    obtain ⟨ax, ox, od, rfl, Jx⟩ := inst_at I jj hv e1
    obtain rfl := Vals.ref1 r
    refine PySem.W.len_K Fr I.ok.mod.kin Jx h1 h2 (dun_at F hb hgu hr.in1 I I.env0.in1 (vs := [.ref ax]) (.cons rfl .nil) jj (.cons hv .nil) q ?_)
    rintro r s' ⟨v, H3, I3, ru, d, μ3, g3, j3, h3, z, rfl, z0, z1, q3⟩
    cases h3
    obtain ⟨t, rfl⟩ := (show ∃ t, r = Value.int z t from ru)
    exact ⟨⟨z0, z1⟩, .int z, H3, I3.tok _, ⟨_, rfl⟩, kk _ _ _ _ g3 j3 (.int z) q3⟩
  · exact q.elim
theorem pd_boolO (Du : Dun X.prog X.w X.K X.mg X.base C "__bool__" k spd) (hm : X.mg "bool" = none) (hr : Room j X.A) (hgu : X.A.guards = some []) (ha : PD X G a ta) (hk : k + 1 ≤ j := by decide) (hg : Gl X "bool" := by rfl) (hs : starEach [a] X.env = (false, eval a X.env) :: starEach [] X.env := by rfl) :
    PD X G (.Call (.Name "bool" p) [a] [] pos) (dCB (gOne C spd isBl) (dCons ta dNil)) := pd_ty (call_boolO Du (hr.mono hk) hgu) lf_rGL hm (by decide +kernel) (pda_cons ha pda_nil hs) hg (by decide) (by decide) hs rfl
theorem pd_strO (Du : Dun X.prog X.w X.K X.mg X.base C "__str__" k spd) (hm : X.mg "str" = none) (hr : Room j X.A) (hgu : X.A.guards = some []) (ha : PD X G a ta) (hk : k + 1 ≤ j := by decide) (hg : Gl X "str" := by rfl) (hs : starEach [a] X.env = (false, eval a X.env) :: starEach [] X.env := by rfl) :
    PD X G (.Call (.Name "str" p) [a] [] pos) (dCB (gOne C spd isStr) (dCons ta dNil)) := pd_ty (call_strO Du (hr.mono hk) hgu) lf_rGL hm (by decide +kernel) (pda_cons ha pda_nil hs) hg (by decide) (by decide) hs rfl
theorem pd_lenO (Du : Dun X.prog X.w X.K X.mg X.base C "__len__" k spd) (hm : X.mg "len" = none) (hr : Room j X.A) (hgu : X.A.guards = some []) (ha : PD X G a ta) (hk : k + 1 ≤ j := by decide) (hg : Gl X "len" := by rfl) (hs : starEach [a] X.env = (false, eval a X.env) :: starEach [] X.env := by rfl) :
    PD X G (.Call (.Name "len" p) [a] [] pos) (dCB (gOne C spd isLen) (dCons ta dNil)) := pd_b (call_lenO Du (hr.mono hk) hgu) lf_rGL hm (by decide +kernel) (pda_cons ha pda_nil hs) hg (by decide) (by decide) hs rfl
end
end Dl

/-! Short words: defs with defaults; what is called, by the form of the call. -/
namespace Dl
open PySem PySem.Spec PyProof.Rows L2
section
variable {P : Program} {w : World} {K : PySem.W.Frag} {mg : Str → Option Value} {base : Heap} {k : Nat} {f : Addr} {fd : FuncData} {ps N : List Str} {spd : SpD} {x qual : Str} {st : Stmt} {dvs : List V} {kws : List (Str × V)} {params : Arguments} {dbody : List Stmt} {scope : Scope}
theorem okGD {CXx : CXT} {sp : Sp} (F : FunD K x qual params dbody scope dvs kws f fd) (S : FnScope N ps scope) (ar : ∀ {vs H Q E}, sp vs H Q E → vs.length = ps.length)
    (body : ∀ {cdv : Value} {A : Around} {outer : List Env} {s : Shared} {H : Hp} {vs : List V} {Q : VK} {E : XK}, A.guards = some [] → Room k (A.deeper (envOfC qual scope s.heap.objs.size f cdv)) → sp vs H Q E →
      ∃ t, PSs (cxOf CXx P w K mg base N qual scope f cdv A outer s H E) dbody t ∧ t { nx := fun _ H' => Q .non H', rt := Q } (start N vs) H) : FnG P w K mg base CXx (k + 1) f fd ps sp := by
  obtain ⟨oc, od, dV, kV, doc, pm, an, cdv, ct, osl, rfl, lk, hcd, _, _⟩ := F.ex
  refine ⟨ar, @fun A outer s H args us vs Q E hg hr e0 hb hv h => ?_⟩
  have keep : ∀ b o, base.get? b = some o → s.heap.get? b = some o := fun b o q => (e0.bs b o q).1
  obtain ⟨t, ht, hq⟩ := body (cdv := cdv) (outer := outer) (s := s) hg (hr.deeper _) h
  refine Att.call_fn (e0.mod.kin.keeps keep) (e0.mod.nolimit.keeps keep) lk hcd hr.depth hb (kinds_ok S us) (fun s1 ic => ?_) S.co S.gen S.kind
  have I := inv_start (CX := CXx) (E := E) S hr.hd e0 (ar h) hv ic
  refine wpAny_mono (ht.run [] s1 _ H _ I hq) (fun fl s2 h2 => ?_) (fun e s2 h2 => h2)
  cases fl with
  | next => obtain ⟨σ2, H2, I2, q2⟩ := h2; exact ⟨V.non, H2, I2.os, I2.bare, I2.base, I2.hok, rfl, q2⟩
  | ret u => obtain ⟨v2, σ2, H2, I2, r2, q2⟩ := h2; exact ⟨v2, H2, I2.os, I2.bare, I2.base, I2.hok, r2, q2⟩
  | brk => obtain ⟨_, _, _, no⟩ := h2; exact no.elim
  | cont => obtain ⟨_, _, _, no⟩ := h2; exact no.elim
theorem okDD (F : FunD K x qual params dbody scope dvs kws f fd) (S : FnScope N ps scope) (ar : ∀ {ds μ Q}, spd ds μ Q → ds.length = ps.length)
    (body : ∀ (X : Cx) (G : Gh), (∃ cdv A outer s H E, X = (cxOf CX0 P w K mg base N qual scope f cdv A outer s H E).nox) → X.A.guards = some [] → Room k X.A → ∃ t, PDSs X G dbody t ∧ ∀ {ds μ Q}, spd ds μ Q → t { nx := fun _ μ => Q .non μ, rt := Q } (startD N ds) μ) :
    FnG P w K mg base CX0 (k + 1) f fd ps (up K spd) := by
  refine okGD F S (@fun vs H Q E h => ?_) (@fun cdv A outer s H vs Q E hg hr h => ?_)
  · obtain ⟨ds, μ, Qd, j, l, q, _⟩ := h
    exact l.length.trans (ar q)
  · obtain ⟨ds, μ, Qd, j, l, q, kk⟩ := h
    obtain ⟨t, ht, hq⟩ := body _ (ghost μ H) ⟨cdv, A, outer, s, H, E, rfl⟩ hg hr
    obtain ⟨ts, p, fn⟩ := ht.ex
    refine ⟨ts, p.nox, fn (start_ok j Gr.refl l) (hq q) ⟨fun σ' H' ρ' μ' g' o' q' => kk _ _ _ _ g' o'.j .non q', kk, fun _ _ _ _ _ _ z => z.elim, fun _ _ _ _ _ _ z => z.elim⟩⟩
theorem funD_mk {oc dV kV doc pm cdv ct : Value} {od an : Option Addr} {osl : Array (Option Value)} (l : K.lookup f = some ⟨oc, od, .func (PySem.W.fnOf x qual (defArgs st) (defBody st) (defScope st) dV kV doc pm an cdv ct), osl⟩) (c : PySem.W.codeIn K cdv qual = true) (kp : PySem.W.keepIn K (.ref f) = true)
    (hD : DflV K dV dvs) (hK : KwdV K kV kws) : FunD K x qual (defArgs st) (defBody st) (defScope st) dvs kws f (PySem.W.fnOf x qual (defArgs st) (defBody st) (defScope st) dV kV doc pm an cdv ct) := ⟨⟨oc, od, dV, kV, doc, pm, an, cdv, ct, osl, rfl, l, c, hD, hK⟩, kp⟩
theorem dfl_mk {T : Addr} {o : Obj} {its : List Value} {n : Nat} (l : K.lookup T = some o) (e : o.data = .seq its.toArray n) (r : Vals dvs its) (h : dvs ≠ []) : DflV K (.ref T) dvs := .inr ⟨h, T, o, its, n, rfl, l, e, r⟩
end
/-- C(..), by the form of the call -/
structure Ctor (P : Program) (w : World) (K : PySem.W.Frag) (mg : Str → Option Value) (base : Heap) (k : Nat) (x : Str) (C : Addr) (spd : SpD) (n : Nat) (ks : List Str) (dd : List D) (ix : List Nat) : Prop where
  ex : ∃ f fd ps, Mk K C f ∧ mg x = some (.ref C) ∧ FnG P w K mg base CX0 k f fd ps (up K spd) ∧ Bnd K fd ps (n + 1) ks dd ix
structure MeC (P : Program) (w : World) (K : PySem.W.Frag) (mg : Str → Option Value) (base : Heap) (k : Nat) (C : Addr) (m : Str) (spd : SpD) (n : Nat) (ks : List Str) (dd : List D) (ix : List Nat) : Prop where
  ex : ∃ f fd ps, Cls K C ∧ Meth K C m f ∧ FnG P w K mg base CX0 k f fd ps (up K spd) ∧ Bnd K fd ps (n + 1) ks dd ix
structure ClB (P : Program) (w : World) (K : PySem.W.Frag) (mg : Str → Option Value) (base : Heap) (k : Nat) (x : Str) (spd : SpD) (n : Nat) (ks : List Str) (dd : List D) (ix : List Nat) : Prop where
  ex : ∃ f fd ps, mg x = some (.ref f) ∧ PySem.W.keepIn K (.ref f) = true ∧ FnG P w K mg base CX0 k f fd ps (up K spd) ∧ Bnd K fd ps n ks dd ix
structure PrC (P : Program) (w : World) (K : PySem.W.Frag) (mg : Str → Option Value) (base : Heap) (k : Nat) (C : Addr) (m : Str) (spd : SpD) : Prop where
  ex : ∃ g f fd ps, Cls K C ∧ PropOf K C m g f ∧ FnG P w K mg base CX0 k f fd ps (up K spd) ∧ Binds K fd ps [] ∧ ps.length = 1
section
variable {X : Cx} {G : Gh} {pos p apos : Pos} {o : Expr} {es : List Expr} {kws : List Keyword} {tA : DA} {to : DE} {n k j : Nat} {ks : List Str} {dd : List D} {ix : List Nat} {spd : SpD} {x m : Str} {C : Addr}
theorem pd_mk (c : Ctor X.prog X.w X.K X.mg X.base k x C spd n ks dd ix) (hr : Room j X.A) (hgu : X.A.guards = some []) (ha : PDC X G pos es kws n ks tA) (hk : k + 1 ≤ j := by decide) (hg : Gl X x := by rfl) (hdb : (x == ("__debug__" : Str)) = false := by decide) : PD X G (.Call (.Name x p) es kws pos) (dMake C spd dd ix tA) := by
  obtain ⟨f, fd, ps, M, nm, F, hb⟩ := c.ex
  exact pd_make M nm F hb hr hgu ha hk hg hdb
theorem pd_mkM (c : Ctor X.prog X.w X.K X.mg X.base k x C spd n ks dd ix) (hr : Room j X.A) (hgu : X.A.guards = some []) (ha : PDC X G pos es kws n ks tA) (hk : k + 1 ≤ j := by decide) (hg : Gl X x := by rfl) (hdb : (x == ("__debug__" : Str)) = false := by decide) : PD X G (.Call (.Name x p) es kws pos) (dMakeM C spd dd ix tA) := by
  obtain ⟨f, fd, ps, M, nm, F, hb⟩ := c.ex
  exact pd_makeM M nm F hb hr hgu ha hk hg hdb
theorem pd_me {pl : Sem Bool} (c : MeC X.prog X.w X.K X.mg X.base k C m spd n ks dd ix) (hr : Room j X.A) (hgu : X.A.guards = some []) (ho : PD X G o to) (ha : PDC X G pos es kws n ks tA) (hk : k ≤ j := by decide)
    (ht : eval (.Call (.Attribute o m apos) es kws pos) X.env = (do
      let ov ← eval o X.env
      standAt apos.atName
      let (f, first) ← holding [ov] (getMethod ov m pl)
      callWith pos f first (backTo pos (starEach es X.env)) (backToKw pos (keywordEach kws X.env))) := by rfl) : PD X G (.Call (.Attribute o m apos) es kws pos) (dMeth C m spd dd ix to tA) := by
  obtain ⟨f, fd, ps, c, me, F, hb⟩ := c.ex
  exact pd_meth c me F hb hr hgu ho ha hk ht
theorem pd_cb (c : ClB X.prog X.w X.K X.mg X.base k x spd n ks dd ix) (hr : Room j X.A) (hgu : X.A.guards = some []) (ha : PDC X G pos es kws n ks tA) (hk : k ≤ j := by decide) (hg : Gl X x := by rfl) (hdb : (x == ("__debug__" : Str)) = false := by decide) : PD X G (.Call (.Name x p) es kws pos) (dCallB spd dd ix tA) := by
  obtain ⟨f, fd, ps, nm, kp, F, hb⟩ := c.ex
  exact pd_callB F nm kp hb hr hgu ha hk hg hdb
theorem pd_pr (c : PrC X.prog X.w X.K X.mg X.base k C m spd) (hr : Room j X.A) (hgu : X.A.guards = some []) (ho : PD X G o to) (hk : k + 1 ≤ j := by decide) (hab : attributeBase o m X.env (eval o X.env) = eval o X.env := by rfl) : PD X G (.Attribute o m pos) (dProp C spd to) := by
  obtain ⟨g, f, fd, ps, c, hp, F, hb, hl⟩ := c.ex
  exact pd_prop c hp F hb hr hgu ho hk hl hab
end
/-! ### small statements -/
section
variable {X : Cx} {G : Gh} {pos : Pos}
def dBrk : DS := fun D ρ μ => D.bk ρ μ
def dCnt : DS := fun D ρ μ => D.ct ρ μ
def dRetN : DS := fun D _ μ => D.rt .non μ
theorem ds_pass : PDS X G (.Pass pos) dNext := ⟨_, ps_pass, @fun σ H ρ μ D Dd o t k => k.nx _ _ _ _ Gr.refl o t⟩
theorem ds_break : PDS X G (.Break pos) dBrk := ⟨_, ps_break, @fun σ H ρ μ D Dd o t k => k.bk _ _ _ _ Gr.refl o t⟩
theorem ds_continue : PDS X G (.Continue pos) dCnt := ⟨_, ps_continue, @fun σ H ρ μ D Dd o t k => k.ct _ _ _ _ Gr.refl o t⟩
theorem ds_retN : PDS X G (.Return none pos) dRetN := ⟨_, ps_retN, @fun σ H ρ μ D Dd o t k => k.rt _ _ _ _ Gr.refl o.j .non t⟩
end
end Dl

/-! Rows for rewriting, part two. -/
namespace Dl
open PySem PySem.Spec PyProof.Rows L2
section
variable {μ : Mu} {Q : DQ} {i j : Int} {p q : Bool} {x y : Str} {xs ys : List D} {C : Addr} {fs : List (Str × D)} {f : Str} {ans : Ty → Option Bool} {c d : D} {spd : SpD}
theorem gAbs_int : gAbs [.int i] μ Q = Q (.int (if i < 0 then -i else i)) μ := rfl
theorem gDivA_int : gDivA (.int i) (.int j) μ Q = ((j ≠ 0 ∧ j.natAbs.log2 < 9000) ∧ Q (.int (Int.fdiv i j)) μ) := rfl
theorem gMulW_int : gMulW (.int i) (.int j) μ Q = (CMulW i j ∧ Q (.int (i * j)) μ) := rfl
theorem gStrI_int : gStrI [.int i] μ Q = (i.natAbs.log2 < 1920 ∧ Q (.str (toString i)) μ) := rfl
theorem gBoolI_int : gBoolI [.int i] μ Q = Q (.bl (i != 0)) μ := rfl
theorem gBoolI_bl : gBoolI [.bl p] μ Q = Q (.bl p) μ := rfl
theorem gTuple_l : gTuple [.lst xs] μ Q = Q (.tup xs) μ := rfl
theorem gTuple_t : gTuple [.tup xs] μ Q = Q (.tup xs) μ := rfl
theorem gNe_bl : gNe (.bl p) (.bl q) μ Q = Q (.bl (!decide (p = q))) μ := by
  unfold gNe gD CEq
  simp only [vw_bl, pur, py, PyData.plain, dp_bool, PyData.eqv, true_and, Nat.zero_le]
  first | rfl | (rw [Bool.beq_eq_decide_eq])
theorem gAdd_str : gAdd (.str x) (.str y) μ Q = (x.length + y.length ≤ sizeLine ∧ Q (.str (x ++ y)) μ) := rfl
theorem gAdd_t : gAdd (.tup xs) (.tup ys) μ Q = (xs.length + ys.length ≤ sizeLine ∧ Q (.tup (xs ++ ys)) μ) := rfl
theorem gAdd_l : gAdd (.lst xs) (.lst ys) μ Q = (xs.length + ys.length ≤ sizeLine ∧ Q (.lst (xs ++ ys)) μ) := rfl
theorem gEq_nil : gEq (.lst []) (.lst []) μ Q = Q (.bl true) μ := by
  unfold gEq gD CEq
  simp [vw_lst, pur, purL, py, pyL, PyData.plain, PyData.plainAll, PyData.depth, PyData.depthAll, PyData.eqv, PyData.eqvAll]
theorem gNe_nil0 : gNe (.lst []) (.lst []) μ Q = Q (.bl false) μ := by
  unfold gNe gD CEq
  simp [vw_lst, pur, purL, py, pyL, PyData.plain, PyData.plainAll, PyData.depth, PyData.depthAll, PyData.eqv, PyData.eqvAll]
theorem oin_obj : oin μ (.obj C fs) = some (C, fs) := rfl
theorem gFld_obj : gFld C f (.obj C fs) μ Q = (∃ d, fs.lookup f = some d ∧ Q d μ) := by
  unfold gFld
  simp only [oin_obj, Option.some.injEq, Prod.mk.injEq, true_and]
  exact propext ⟨fun ⟨fs', d, e, h⟩ => ⟨d, by rw [e]; exact h.1, h.2⟩, fun ⟨d, h⟩ => ⟨fs, d, rfl, h⟩⟩
theorem gIsi_of {t : Ty} (h : tyD μ d = some t) : gIsi ans c [d, c] μ Q = (∃ z, ans t = some z ∧ Q (.bl z) μ) := by
  unfold gIsi
  simp only [true_and, h, Option.some.injEq]
  exact propext ⟨fun ⟨t', z, e, h⟩ => ⟨z, by rw [e]; exact h.1, h.2⟩, fun ⟨z, h⟩ => ⟨t, z, rfl, h⟩⟩
theorem gIsi_non : gIsi ans c [.non, c] μ Q = (∃ z, ans .non = some z ∧ Q (.bl z) μ) := gIsi_of rfl
theorem gIsi_bl : gIsi ans c [.bl p, c] μ Q = (∃ z, ans .bl = some z ∧ Q (.bl z) μ) := gIsi_of rfl
theorem gIsi_int : gIsi ans c [.int i, c] μ Q = (∃ z, ans .int = some z ∧ Q (.bl z) μ) := gIsi_of rfl
theorem gIsi_str : gIsi ans c [.str x, c] μ Q = (∃ z, ans .str = some z ∧ Q (.bl z) μ) := gIsi_of rfl
theorem gIsi_lst : gIsi ans c [.lst xs, c] μ Q = (∃ z, ans .lst = some z ∧ Q (.bl z) μ) := gIsi_of rfl
theorem gIsi_tup : gIsi ans c [.tup xs, c] μ Q = (∃ z, ans .tup = some z ∧ Q (.bl z) μ) := gIsi_of rfl
theorem gIsi_obj : gIsi ans c [.obj C fs, c] μ Q = (∃ z, ans (.own C) = some z ∧ Q (.bl z) μ) := gIsi_of rfl
theorem ex_some {α : Type} {a : α} {R : α → Prop} : (∃ z, some a = some z ∧ R z) = R a := propext ⟨fun ⟨_, e, h⟩ => by cases e; exact h, fun h => ⟨a, rfl, h⟩⟩
theorem gDun_obj {fs' : List (Str × D)} : gDun C spd (.obj C fs) (.obj C fs') μ Q = spd [.obj C fs, .obj C fs'] μ Q := by
  unfold gDun
  simp only [oin_obj, Option.some.injEq, Prod.mk.injEq, true_and, exists_eq']
theorem gOne_obj {G : D → Mu → DQ → Prop} : gOne C spd G [.obj C fs] μ Q = spd [.obj C fs] μ fun r μ' => G r μ' Q := by
  unfold gOne
  simp only [oin_obj, Option.some.injEq, Prod.mk.injEq, true_and, exists_eq']
theorem isBl_bl : isBl (.bl p) μ Q = Q (.bl p) μ := propext ⟨fun ⟨_, _, h⟩ => h, fun h => ⟨_, rfl, h⟩⟩
theorem isStr_str : isStr (.str x) μ Q = Q (.str x) μ := propext ⟨fun ⟨_, _, h⟩ => h, fun h => ⟨_, rfl, h⟩⟩
theorem ex_bl {R : Bool → Prop} : (∃ z, D.bl p = D.bl z ∧ R z) = R p := propext ⟨fun ⟨_, e, h⟩ => by cases e; exact h, fun h => ⟨p, rfl, h⟩⟩
end
theorem pd_gref {X : Cx} {G : Gh} {x : Str} {a : Addr} {pos : Pos} (hm : X.mg x = some (.ref a)) (hg : Gl X x := by rfl) (hdb : (x == ("__debug__" : Str)) = false := by decide) : PD X G (.Name x pos) (dC (.ref a)) := pd_glob (v := .ref a) hm rfl (fun _ _ => .ref a) hg hdb
/-! ### repr of small data -/
def Small (B W : Nat) (d : D) : Prop := pur d = true ∧ (py d).showable = true ∧ (py d).depth ≤ 64 ∧ (py d).leavesShort B = true ∧ (py d).weight ≤ W
theorem Small.shows {B W : Nat} {d : D} (h : Small B W d) (hB : 8 ≤ B) (hW : (B + 2) * W + B ≤ 16777216) : Shows d := by
  obtain ⟨h1, h2, h3, h4, h5⟩ := h
  refine ⟨h1, h2, h3, Nat.le_trans (PyData.shown_le B hB _ h4) ?_⟩
  rw [sizeLine_eq]
  exact Nat.le_trans (Nat.add_le_add_right (Nat.mul_le_mul_left _ h5) _) hW
theorem int_short {i : Int} {k : Nat} (hk : 0 < k) (h : i.natAbs.log2 < k) : (PyData.int i).leavesShort (k + 1) = true := by
  unfold PyData.leavesShort PyData.shown
  rw [decide_eq_true_eq]
  have := int_text_length_le hk h
  show (Str.ofString (toString i)).length ≤ _
  rw [PySem.ofString_length]
  exact this
theorem int_weight {i : Int} {k : Nat} (h : i.natAbs.log2 < k) : (PyData.int i).weight ≤ k := by
  unfold PyData.weight
  split <;> omega
end Dl

/-! Rows for walking a derivation from the outside inwards (each is its definition; used as ↓ rows, so that nothing is gone through twice). -/
namespace Dl
open PySem PySem.Spec PyProof.Rows L2
section
variable {t u : DS} {te ta tb to tv ti : DE} {tA tK : DA} {tT tU : DT} {nx bk ct : Ro → Mu → Prop} {rt Q : DQ} {ρ : Ro} {μ : Mu} {g : DG} {gs : DGs} {d x y : D} {ds xs : List D} {R : Ro → Mu → Prop} {QB : Bool → Mu → Prop} {QL : List D → Mu → Prop} {n i j : Nat} {a b c e : D}
theorem s_seq : dSeq t u ⟨nx, rt, bk, ct⟩ ρ μ = t ⟨u ⟨nx, rt, bk, ct⟩, rt, bk, ct⟩ ρ μ := rfl
theorem s_next : dNext ⟨nx, rt, bk, ct⟩ ρ μ = nx ρ μ := rfl
theorem s_brk : dBrk ⟨nx, rt, bk, ct⟩ ρ μ = bk ρ μ := rfl
theorem s_cnt : dCnt ⟨nx, rt, bk, ct⟩ ρ μ = ct ρ μ := rfl
theorem s_retN : dRetN ⟨nx, rt, bk, ct⟩ ρ μ = rt .non μ := rfl
theorem s_ret : dRet te ⟨nx, rt, bk, ct⟩ ρ μ = te ρ μ rt := rfl
theorem s_drop : dDrop te ⟨nx, rt, bk, ct⟩ ρ μ = te ρ μ fun _ μ1 => nx ρ μ1 := rfl
theorem s_if : dIf tT t u ⟨nx, rt, bk, ct⟩ ρ μ = tT ρ μ fun b μ1 => if b = true then t ⟨nx, rt, bk, ct⟩ ρ μ1 else u ⟨nx, rt, bk, ct⟩ ρ μ1 := rfl
theorem s_asg : dAsg te g ⟨nx, rt, bk, ct⟩ ρ μ = te ρ μ fun x μ1 => g x ρ μ1 nx := rfl
def dPar2 (i j : Nat) (ds : List D) (ρ : Ro) (μ : Mu) (nx : Ro → Mu → Prop) : Prop := match ds with
  | [x, y] => nx ((ρ.set i (some x)).set j (some y)) μ
  | _ => False
theorem s_par : dPar i j tA ⟨nx, rt, bk, ct⟩ ρ μ = tA ρ μ fun ds μ1 => dPar2 i j ds ρ μ1 nx := rfl
theorem s_par2 : dPar2 i j [x, y] ρ μ nx = dName i x ρ μ fun ρ' μ' => dName j y ρ' μ' nx := rfl
theorem s_tup : dGTup n gs (.tup ds) ρ μ R = (ds.length = n ∧ gs ds ρ μ R) := rfl
theorem s_gnil : dGNil [] ρ μ R = R ρ μ := rfl
theorem s_gcons : dGCons g gs (d :: ds) ρ μ R = g d ρ μ fun ρ' μ' => gs ds ρ' μ' R := rfl
theorem s_op {g2 : G2} : dOp g2 ta tb ρ μ Q = ta ρ μ fun x μ1 => tb ρ μ1 fun y μ2 => g2 x y μ2 Q := rfl
theorem s_c : dC d ρ μ Q = Q d μ := rfl
def bB (x : D) (μ : Mu) (QB : Bool → Mu → Prop) : Prop := match x with
  | .bl b => QB b μ
  | _ => False
theorem s_b : dB te ρ μ QB = te ρ μ fun x μ1 => bB x μ1 QB := rfl
theorem s_bB {p : Bool} : bB (.bl p) μ QB = QB p μ := rfl
theorem s_andT : dAndT tT tU ρ μ QB = tT ρ μ fun c μ1 => if c = true then tU ρ μ1 QB else QB false μ1 := rfl
theorem s_orT : dOrT tT tU ρ μ QB = tT ρ μ fun c μ1 => if c = true then QB true μ1 else tU ρ μ1 QB := rfl
theorem s_notT : dNotT tT ρ μ QB = tT ρ μ fun c μ1 => QB (!c) μ1 := rfl
theorem s_ifE : dIfE tT ta tb ρ μ Q = tT ρ μ fun c μ1 => if c = true then ta ρ μ1 Q else tb ρ μ1 Q := rfl
def bAnd (x : D) (μ : Mu) (tb : Mu → Prop) (Q : DQ) : Prop := match x with
  | .bl true => tb μ
  | .bl false => Q (.bl false) μ
  | _ => False
def bOr (x : D) (μ : Mu) (tb : Mu → Prop) (Q : DQ) : Prop := match x with
  | .bl true => Q (.bl true) μ
  | .bl false => tb μ
  | _ => False
theorem s_and : dAnd ta tb ρ μ Q = ta ρ μ fun x μ1 => bAnd x μ1 (fun μ2 => tb ρ μ2 Q) Q := rfl
theorem s_or : dOr ta tb ρ μ Q = ta ρ μ fun x μ1 => bOr x μ1 (fun μ2 => tb ρ μ2 Q) Q := rfl
theorem s_bAnd {p : Bool} {T : Mu → Prop} : bAnd (.bl p) μ T Q = if p = true then T μ else Q (.bl false) μ := by cases p <;> rfl
theorem s_bOr {p : Bool} {T : Mu → Prop} : bOr (.bl p) μ T Q = if p = true then Q (.bl true) μ else T μ := by cases p <;> rfl
theorem s_etup : dTup tA ρ μ Q = tA ρ μ fun xs μ1 => xs.length ≤ sizeLine ∧ Q (.tup xs) μ1 := rfl
theorem s_lst : dLst tA ρ μ Q = tA ρ μ fun xs μ1 => xs.length ≤ sizeLine ∧ Q (.lst xs) μ1 := rfl
theorem s_lstM : dLstM tA ρ μ Q = tA ρ μ fun xs μ1 => xs.length ≤ sizeLine ∧ ∀ p, μ1 p = none → Q (.ref p) (mup μ1 p (.lst xs)) := rfl
theorem s_nil : dNil ρ μ QL = QL [] μ := rfl
theorem s_cons : dCons te tA ρ μ QL = te ρ μ fun x μ1 => tA ρ μ1 fun xs μ2 => QL (x :: xs) μ2 := rfl
theorem s_call {spd : SpD} : dCall spd tA ρ μ Q = tA ρ μ fun ds μ1 => spd ds μ1 Q := rfl
theorem s_callB {spd : SpD} {dd : List D} {ix : List Nat} : dCallB spd dd ix tA ρ μ Q = tA ρ μ fun ds μ1 => spd (pick ix (ds ++ dd)) μ1 Q := rfl
theorem s_cb {gg : List D → Mu → DQ → Prop} : dCB gg tA ρ μ Q = tA ρ μ fun ds μ1 => gg ds μ1 Q := rfl
theorem s_un {gg : D → Mu → DQ → Prop} : dUn gg ta ρ μ Q = ta ρ μ fun x μ1 => gg x μ1 Q := rfl
theorem s_m0 {gg : D → Mu → DQ → Prop} : dM0 gg ta ρ μ Q = ta ρ μ fun x μ1 => gg x μ1 Q := rfl
theorem s_m {gg : D → List D → Mu → DQ → Prop} : dM gg to tA ρ μ Q = to ρ μ fun x μ1 => (∃ a xs, x = .ref a ∧ μ1 a = some (.lst xs)) ∧ tA ρ μ1 fun ds μ2 => gg x ds μ2 Q := rfl
theorem s_len : dLen n tA ρ μ QL = tA ρ μ fun xs μ1 => xs.length = n ∧ QL xs μ1 := rfl
theorem s_both : dBoth tA tK ρ μ QL = tA ρ μ fun xs μ1 => tK ρ μ1 fun ys μ2 => QL (xs ++ ys) μ2 := rfl
theorem s_fld {C : Addr} {f : Str} : dFld C f to ρ μ Q = to ρ μ fun x μ1 => gFld C f x μ1 Q := rfl
theorem s_setF {C : Addr} {f : Str} : dSetF C f to tv ⟨nx, rt, bk, ct⟩ ρ μ = tv ρ μ fun y μ1 => to ρ μ1 fun x μ2 => gSetF C f x y μ2 fun μ3 => nx ρ μ3 := rfl
def gMake (C : Addr) (spd : SpD) (ix : List Nat) (ds : List D) (μ : Mu) (Q : DQ) : Prop := ∀ a, μ a = none → spd (pick ix (.ref a :: ds)) (mup μ a (.ins C [])) fun r μ2 => r = .non ∧ ∃ fs, μ2 a = some (.ins C fs) ∧ Q (.obj C fs) (mdel μ2 a)
def gMakeM (C : Addr) (spd : SpD) (ix : List Nat) (ds : List D) (μ : Mu) (Q : DQ) : Prop := ∀ a, μ a = none → spd (pick ix (.ref a :: ds)) (mup μ a (.ins C [])) fun r μ2 => r = .non ∧ Q (.ref a) μ2
theorem s_make {C : Addr} {spd : SpD} {dd : List D} {ix : List Nat} : dMake C spd dd ix tA ρ μ Q = tA ρ μ fun ds μ1 => gMake C spd ix (ds ++ dd) μ1 Q := rfl
theorem s_makeM {C : Addr} {spd : SpD} {dd : List D} {ix : List Nat} : dMakeM C spd dd ix tA ρ μ Q = tA ρ μ fun ds μ1 => gMakeM C spd ix (ds ++ dd) μ1 Q := rfl
theorem s_meth {C : Addr} {m : Str} {spd : SpD} {dd : List D} {ix : List Nat} : dMeth C m spd dd ix to tA ρ μ Q = to ρ μ fun x μ1 => (∃ fs, oin μ1 x = some (C, fs) ∧ fs.lookup m = none) ∧ tA ρ μ1 fun ds μ2 => spd (pick ix (x :: (ds ++ dd))) μ2 Q := rfl
theorem s_prop {C : Addr} {spd : SpD} : dProp C spd to ρ μ Q = to ρ μ fun x μ1 => (∃ fs, oin μ1 x = some (C, fs)) ∧ spd [x] μ1 Q := rfl
theorem s_orV : dOrV ta tb ρ μ Q = ta ρ μ fun x μ1 => ∃ z, TruD μ1 x z ∧ if z = true then Q x μ1 else tb ρ μ1 Q := rfl
def bSome (x : D) (μ : Mu) (QO : Option Int → Mu → Prop) : Prop := match x with
  | .int i => QO (some i) μ
  | _ => False
theorem s_sl {tl th : DO} : dSl te tl th ρ μ Q = te ρ μ fun x μ1 => tl ρ μ1 fun l μ2 => th ρ μ2 fun u μ3 => gSl x l u μ3 Q := rfl
theorem s_no {QO : Option Int → Mu → Prop} : dNo ρ μ QO = QO none μ := rfl
theorem s_some {QO : Option Int → Mu → Prop} : dSome te ρ μ QO = te ρ μ fun x μ1 => bSome x μ1 QO := rfl
theorem s_bSome {k : Int} {QO : Option Int → Mu → Prop} : bSome (.int k) μ QO = QO (some k) μ := rfl
def bFmt (x : D) (μ : Mu) (Q : DQ) : Prop := match x with
  | .str y => y.length ≤ sizeLine ∧ Q (.str y) μ
  | .int i => i.natAbs.log2 < 1920 ∧ Q (.str (toString i)) μ
  | _ => False
theorem s_fmt : dFmt te ρ μ Q = te ρ μ fun x μ1 => bFmt x μ1 Q := rfl
theorem s_fmtS {z : Str} : bFmt (.str z) μ Q = (z.length ≤ sizeLine ∧ Q (.str z) μ) := rfl
theorem s_fmtI {k : Int} : bFmt (.int k) μ Q = (k.natAbs.log2 < 1920 ∧ Q (.str (toString k)) μ) := rfl
theorem s_join {ts : List DE} : dJoin ts ρ μ Q = dJs ts Str.empty ρ μ fun out μ1 => Q (.str out) μ1 := rfl
def bJs (x : D) (acc : Str) (μ : Mu) (K : Str → Mu → Prop) : Prop := match x with
  | .str y => (acc ++ y).length ≤ sizeLine ∧ K (acc ++ y) μ
  | _ => False
theorem s_js0 {acc : Str} {QS : Str → Mu → Prop} : dJs [] acc ρ μ QS = QS acc μ := rfl
theorem s_js1 {acc : Str} {QS : Str → Mu → Prop} {ts : List DE} : dJs (te :: ts) acc ρ μ QS = te ρ μ fun x μ1 => bJs x acc μ1 fun z μ2 => dJs ts z ρ μ2 QS := by
  show (te ρ μ _) = _
  congr
theorem s_bJs {acc z : Str} {KK : Str → Mu → Prop} : bJs (.str z) acc μ KK = ((acc ++ z).length ≤ sizeLine ∧ KK (acc ++ z) μ) := rfl
theorem s_sub : dSub to ti d ρ μ R = to ρ μ fun x μ1 => ti ρ μ1 fun i μ2 => gSetL x i d μ2 fun μ3 => R ρ μ3 := rfl
theorem s_yes {QB : Bool → Mu → Prop} : dYes ρ μ QB = QB true μ := rfl
theorem p_nil {α : Type} {l : List α} : pick [] l = [] := rfl

theorem v_0 : dVar 0 (some d :: ρ) μ Q = Q d μ := rfl
theorem n_0 {o : Option D} : dName 0 d (o :: ρ) μ R = R (some d :: ρ) μ := rfl
theorem v_1 {o0 : Option D} : dVar 1 (o0 :: some d :: ρ) μ Q = Q d μ := rfl
theorem n_1 {o0 : Option D} {o : Option D} : dName 1 d (o0 :: o :: ρ) μ R = R (o0 :: some d :: ρ) μ := rfl
theorem v_2 {o0 o1 : Option D} : dVar 2 (o0 :: o1 :: some d :: ρ) μ Q = Q d μ := rfl
theorem n_2 {o0 o1 : Option D} {o : Option D} : dName 2 d (o0 :: o1 :: o :: ρ) μ R = R (o0 :: o1 :: some d :: ρ) μ := rfl
theorem v_3 {o0 o1 o2 : Option D} : dVar 3 (o0 :: o1 :: o2 :: some d :: ρ) μ Q = Q d μ := rfl
theorem n_3 {o0 o1 o2 : Option D} {o : Option D} : dName 3 d (o0 :: o1 :: o2 :: o :: ρ) μ R = R (o0 :: o1 :: o2 :: some d :: ρ) μ := rfl
theorem v_4 {o0 o1 o2 o3 : Option D} : dVar 4 (o0 :: o1 :: o2 :: o3 :: some d :: ρ) μ Q = Q d μ := rfl
theorem n_4 {o0 o1 o2 o3 : Option D} {o : Option D} : dName 4 d (o0 :: o1 :: o2 :: o3 :: o :: ρ) μ R = R (o0 :: o1 :: o2 :: o3 :: some d :: ρ) μ := rfl
theorem v_5 {o0 o1 o2 o3 o4 : Option D} : dVar 5 (o0 :: o1 :: o2 :: o3 :: o4 :: some d :: ρ) μ Q = Q d μ := rfl
theorem n_5 {o0 o1 o2 o3 o4 : Option D} {o : Option D} : dName 5 d (o0 :: o1 :: o2 :: o3 :: o4 :: o :: ρ) μ R = R (o0 :: o1 :: o2 :: o3 :: o4 :: some d :: ρ) μ := rfl
theorem v_6 {o0 o1 o2 o3 o4 o5 : Option D} : dVar 6 (o0 :: o1 :: o2 :: o3 :: o4 :: o5 :: some d :: ρ) μ Q = Q d μ := rfl
theorem n_6 {o0 o1 o2 o3 o4 o5 : Option D} {o : Option D} : dName 6 d (o0 :: o1 :: o2 :: o3 :: o4 :: o5 :: o :: ρ) μ R = R (o0 :: o1 :: o2 :: o3 :: o4 :: o5 :: some d :: ρ) μ := rfl
theorem v_7 {o0 o1 o2 o3 o4 o5 o6 : Option D} : dVar 7 (o0 :: o1 :: o2 :: o3 :: o4 :: o5 :: o6 :: some d :: ρ) μ Q = Q d μ := rfl
theorem n_7 {o0 o1 o2 o3 o4 o5 o6 : Option D} {o : Option D} : dName 7 d (o0 :: o1 :: o2 :: o3 :: o4 :: o5 :: o6 :: o :: ρ) μ R = R (o0 :: o1 :: o2 :: o3 :: o4 :: o5 :: o6 :: some d :: ρ) μ := rfl
theorem v_8 {o0 o1 o2 o3 o4 o5 o6 o7 : Option D} : dVar 8 (o0 :: o1 :: o2 :: o3 :: o4 :: o5 :: o6 :: o7 :: some d :: ρ) μ Q = Q d μ := rfl
theorem n_8 {o0 o1 o2 o3 o4 o5 o6 o7 : Option D} {o : Option D} : dName 8 d (o0 :: o1 :: o2 :: o3 :: o4 :: o5 :: o6 :: o7 :: o :: ρ) μ R = R (o0 :: o1 :: o2 :: o3 :: o4 :: o5 :: o6 :: o7 :: some d :: ρ) μ := rfl
theorem v_9 {o0 o1 o2 o3 o4 o5 o6 o7 o8 : Option D} : dVar 9 (o0 :: o1 :: o2 :: o3 :: o4 :: o5 :: o6 :: o7 :: o8 :: some d :: ρ) μ Q = Q d μ := rfl
theorem n_9 {o0 o1 o2 o3 o4 o5 o6 o7 o8 : Option D} {o : Option D} : dName 9 d (o0 :: o1 :: o2 :: o3 :: o4 :: o5 :: o6 :: o7 :: o8 :: o :: ρ) μ R = R (o0 :: o1 :: o2 :: o3 :: o4 :: o5 :: o6 :: o7 :: o8 :: some d :: ρ) μ := rfl
theorem v_10 {o0 o1 o2 o3 o4 o5 o6 o7 o8 o9 : Option D} : dVar 10 (o0 :: o1 :: o2 :: o3 :: o4 :: o5 :: o6 :: o7 :: o8 :: o9 :: some d :: ρ) μ Q = Q d μ := rfl
theorem n_10 {o0 o1 o2 o3 o4 o5 o6 o7 o8 o9 : Option D} {o : Option D} : dName 10 d (o0 :: o1 :: o2 :: o3 :: o4 :: o5 :: o6 :: o7 :: o8 :: o9 :: o :: ρ) μ R = R (o0 :: o1 :: o2 :: o3 :: o4 :: o5 :: o6 :: o7 :: o8 :: o9 :: some d :: ρ) μ := rfl
theorem v_11 {o0 o1 o2 o3 o4 o5 o6 o7 o8 o9 o10 : Option D} : dVar 11 (o0 :: o1 :: o2 :: o3 :: o4 :: o5 :: o6 :: o7 :: o8 :: o9 :: o10 :: some d :: ρ) μ Q = Q d μ := rfl
theorem n_11 {o0 o1 o2 o3 o4 o5 o6 o7 o8 o9 o10 : Option D} {o : Option D} : dName 11 d (o0 :: o1 :: o2 :: o3 :: o4 :: o5 :: o6 :: o7 :: o8 :: o9 :: o10 :: o :: ρ) μ R = R (o0 :: o1 :: o2 :: o3 :: o4 :: o5 :: o6 :: o7 :: o8 :: o9 :: o10 :: some d :: ρ) μ := rfl
theorem v_12 {o0 o1 o2 o3 o4 o5 o6 o7 o8 o9 o10 o11 : Option D} : dVar 12 (o0 :: o1 :: o2 :: o3 :: o4 :: o5 :: o6 :: o7 :: o8 :: o9 :: o10 :: o11 :: some d :: ρ) μ Q = Q d μ := rfl
theorem n_12 {o0 o1 o2 o3 o4 o5 o6 o7 o8 o9 o10 o11 : Option D} {o : Option D} : dName 12 d (o0 :: o1 :: o2 :: o3 :: o4 :: o5 :: o6 :: o7 :: o8 :: o9 :: o10 :: o11 :: o :: ρ) μ R = R (o0 :: o1 :: o2 :: o3 :: o4 :: o5 :: o6 :: o7 :: o8 :: o9 :: o10 :: o11 :: some d :: ρ) μ := rfl
theorem v_13 {o0 o1 o2 o3 o4 o5 o6 o7 o8 o9 o10 o11 o12 : Option D} : dVar 13 (o0 :: o1 :: o2 :: o3 :: o4 :: o5 :: o6 :: o7 :: o8 :: o9 :: o10 :: o11 :: o12 :: some d :: ρ) μ Q = Q d μ := rfl
theorem n_13 {o0 o1 o2 o3 o4 o5 o6 o7 o8 o9 o10 o11 o12 : Option D} {o : Option D} : dName 13 d (o0 :: o1 :: o2 :: o3 :: o4 :: o5 :: o6 :: o7 :: o8 :: o9 :: o10 :: o11 :: o12 :: o :: ρ) μ R = R (o0 :: o1 :: o2 :: o3 :: o4 :: o5 :: o6 :: o7 :: o8 :: o9 :: o10 :: o11 :: o12 :: some d :: ρ) μ := rfl
theorem v_14 {o0 o1 o2 o3 o4 o5 o6 o7 o8 o9 o10 o11 o12 o13 : Option D} : dVar 14 (o0 :: o1 :: o2 :: o3 :: o4 :: o5 :: o6 :: o7 :: o8 :: o9 :: o10 :: o11 :: o12 :: o13 :: some d :: ρ) μ Q = Q d μ := rfl
theorem n_14 {o0 o1 o2 o3 o4 o5 o6 o7 o8 o9 o10 o11 o12 o13 : Option D} {o : Option D} : dName 14 d (o0 :: o1 :: o2 :: o3 :: o4 :: o5 :: o6 :: o7 :: o8 :: o9 :: o10 :: o11 :: o12 :: o13 :: o :: ρ) μ R = R (o0 :: o1 :: o2 :: o3 :: o4 :: o5 :: o6 :: o7 :: o8 :: o9 :: o10 :: o11 :: o12 :: o13 :: some d :: ρ) μ := rfl
theorem v_15 {o0 o1 o2 o3 o4 o5 o6 o7 o8 o9 o10 o11 o12 o13 o14 : Option D} : dVar 15 (o0 :: o1 :: o2 :: o3 :: o4 :: o5 :: o6 :: o7 :: o8 :: o9 :: o10 :: o11 :: o12 :: o13 :: o14 :: some d :: ρ) μ Q = Q d μ := rfl
theorem n_15 {o0 o1 o2 o3 o4 o5 o6 o7 o8 o9 o10 o11 o12 o13 o14 : Option D} {o : Option D} : dName 15 d (o0 :: o1 :: o2 :: o3 :: o4 :: o5 :: o6 :: o7 :: o8 :: o9 :: o10 :: o11 :: o12 :: o13 :: o14 :: o :: ρ) μ R = R (o0 :: o1 :: o2 :: o3 :: o4 :: o5 :: o6 :: o7 :: o8 :: o9 :: o10 :: o11 :: o12 :: o13 :: o14 :: some d :: ρ) μ := rfl
theorem v_16 {o0 o1 o2 o3 o4 o5 o6 o7 o8 o9 o10 o11 o12 o13 o14 o15 : Option D} : dVar 16 (o0 :: o1 :: o2 :: o3 :: o4 :: o5 :: o6 :: o7 :: o8 :: o9 :: o10 :: o11 :: o12 :: o13 :: o14 :: o15 :: some d :: ρ) μ Q = Q d μ := rfl
theorem n_16 {o0 o1 o2 o3 o4 o5 o6 o7 o8 o9 o10 o11 o12 o13 o14 o15 : Option D} {o : Option D} : dName 16 d (o0 :: o1 :: o2 :: o3 :: o4 :: o5 :: o6 :: o7 :: o8 :: o9 :: o10 :: o11 :: o12 :: o13 :: o14 :: o15 :: o :: ρ) μ R = R (o0 :: o1 :: o2 :: o3 :: o4 :: o5 :: o6 :: o7 :: o8 :: o9 :: o10 :: o11 :: o12 :: o13 :: o14 :: o15 :: some d :: ρ) μ := rfl
theorem v_17 {o0 o1 o2 o3 o4 o5 o6 o7 o8 o9 o10 o11 o12 o13 o14 o15 o16 : Option D} : dVar 17 (o0 :: o1 :: o2 :: o3 :: o4 :: o5 :: o6 :: o7 :: o8 :: o9 :: o10 :: o11 :: o12 :: o13 :: o14 :: o15 :: o16 :: some d :: ρ) μ Q = Q d μ := rfl
theorem n_17 {o0 o1 o2 o3 o4 o5 o6 o7 o8 o9 o10 o11 o12 o13 o14 o15 o16 : Option D} {o : Option D} : dName 17 d (o0 :: o1 :: o2 :: o3 :: o4 :: o5 :: o6 :: o7 :: o8 :: o9 :: o10 :: o11 :: o12 :: o13 :: o14 :: o15 :: o16 :: o :: ρ) μ R = R (o0 :: o1 :: o2 :: o3 :: o4 :: o5 :: o6 :: o7 :: o8 :: o9 :: o10 :: o11 :: o12 :: o13 :: o14 :: o15 :: o16 :: some d :: ρ) μ := rfl
theorem p_0 {α : Type} {ix : List Nat} {x : α} {l : List α} : pick (0 :: ix) (x :: l) = x :: pick ix (x :: l) := rfl
theorem p_1 {α : Type} {ix : List Nat} {z0 x : α} {l : List α} : pick (1 :: ix) (z0 :: x :: l) = x :: pick ix (z0 :: x :: l) := rfl
theorem p_2 {α : Type} {ix : List Nat} {z0 z1 x : α} {l : List α} : pick (2 :: ix) (z0 :: z1 :: x :: l) = x :: pick ix (z0 :: z1 :: x :: l) := rfl
theorem p_3 {α : Type} {ix : List Nat} {z0 z1 z2 x : α} {l : List α} : pick (3 :: ix) (z0 :: z1 :: z2 :: x :: l) = x :: pick ix (z0 :: z1 :: z2 :: x :: l) := rfl
theorem p_4 {α : Type} {ix : List Nat} {z0 z1 z2 z3 x : α} {l : List α} : pick (4 :: ix) (z0 :: z1 :: z2 :: z3 :: x :: l) = x :: pick ix (z0 :: z1 :: z2 :: z3 :: x :: l) := rfl
theorem p_5 {α : Type} {ix : List Nat} {z0 z1 z2 z3 z4 x : α} {l : List α} : pick (5 :: ix) (z0 :: z1 :: z2 :: z3 :: z4 :: x :: l) = x :: pick ix (z0 :: z1 :: z2 :: z3 :: z4 :: x :: l) := rfl
theorem p_6 {α : Type} {ix : List Nat} {z0 z1 z2 z3 z4 z5 x : α} {l : List α} : pick (6 :: ix) (z0 :: z1 :: z2 :: z3 :: z4 :: z5 :: x :: l) = x :: pick ix (z0 :: z1 :: z2 :: z3 :: z4 :: z5 :: x :: l) := rfl
theorem p_7 {α : Type} {ix : List Nat} {z0 z1 z2 z3 z4 z5 z6 x : α} {l : List α} : pick (7 :: ix) (z0 :: z1 :: z2 :: z3 :: z4 :: z5 :: z6 :: x :: l) = x :: pick ix (z0 :: z1 :: z2 :: z3 :: z4 :: z5 :: z6 :: x :: l) := rfl
end
theorem isCls_eq {K : PySem.W.Frag} {C : Addr} : PySem.W.isClsIn K C = (PySem.W.clsIn K C).isSome := rfl
end Dl

/-! Dicts with keys that are ints and texts, as things that change. -/
namespace Dl
open PySem PySem.Spec PyProof.Rows L2
def keyD : D → Option Key
  | .int i => some (.inl i)
  | .str x => some (.inr x)
  | _ => none
def valD (kvs : List (Key × D)) (k : Key) : Option D := (kvs.find? fun kv => decide (kv.1 = k)).map (·.2)
def setD (kvs : List (Key × D)) (k : Key) (d : D) : List (Key × D) := if (kvs.any fun kv => decide (kv.1 = k)) = true then kvs.map (fun kv => if kv.1 = k then (kv.1, d) else kv) else kvs ++ [(k, d)]
def outD (kvs : List (Key × D)) (k : Key) : List (Key × D) := kvs.filter fun kv => decide (kv.1 ≠ k)
section
variable {K : PySem.W.Frag} {μ : Mu} {H : Hp} {v : V} {d : D} {k : Key} {kvs : List (Key × D)} {fv : List (Key × V)}
theorem Da.key (h : Da K μ H v d) (e : keyD d = some k) : v = kV k := by
  cases d <;> simp [keyD] at e
  · cases h; subst e; rfl
  · cases h; subst e; rfl
theorem DaK.val (k : Key) : ∀ {fv : List (Key × V)} {kvs : List (Key × D)}, DaK K μ H fv kvs → (∃ v d, valV fv k = some v ∧ valD kvs k = some d ∧ Da K μ H v d) ∨ (valV fv k = none ∧ valD kvs k = none)
  | _, _, .nil => .inr ⟨rfl, rfl⟩
  | _, _, .cons (n := n) h l => by
    unfold valV valD
    by_cases e : n = k
    · exact .inl ⟨_, _, by simp [List.find?_cons, e], by simp [List.find?_cons, e], h⟩
    · have := DaK.val k l
      unfold valV valD at this
      simpa [List.find?_cons, e] using this
theorem DaK.any (k : Key) : ∀ {fv : List (Key × V)} {kvs : List (Key × D)}, DaK K μ H fv kvs → (fv.any fun kv => decide (kv.1 = k)) = (kvs.any fun kv => decide (kv.1 = k))
  | _, _, .nil => rfl
  | _, _, .cons _ l => by rw [List.any_cons, List.any_cons, DaK.any k l]
theorem DaK.length : ∀ {fv : List (Key × V)} {kvs : List (Key × D)}, DaK K μ H fv kvs → fv.length = kvs.length
  | _, _, .nil => rfl
  | _, _, .cons _ l => congrArg (· + 1) l.length
theorem DaK.append : ∀ {a b : List (Key × V)} {c e : List (Key × D)}, DaK K μ H a c → DaK K μ H b e → DaK K μ H (a ++ b) (c ++ e)
  | _, _, _, _, .nil, s => s
  | _, _, _, _, .cons h l, s => .cons h (l.append s)
theorem DaK.over' (h : Da K μ H v d) : ∀ {fv : List (Key × V)} {kvs : List (Key × D)}, DaK K μ H fv kvs → DaK K μ H (fv.map fun kv => if kv.1 = k then (kv.1, v) else kv) (kvs.map fun kv => if kv.1 = k then (kv.1, d) else kv)
  | _, _, .nil => .nil
  | _, _, .cons (n := n) q l => by
    rw [List.map_cons, List.map_cons]
    by_cases e : n = k
    · simp only [e, if_true]
      exact .cons h (DaK.over' h l)
    · simp only [e, if_false]
      exact .cons q (DaK.over' h l)
theorem DaK.put (h : Da K μ H v d) (l : DaK K μ H fv kvs) : DaK K μ H (putK fv k v) (setD kvs k d) := by
  unfold putK setD
  rw [l.any k]
  split
  · exact l.over' h
  · exact l.append (.cons h .nil)
theorem DaK.out (k : Key) : ∀ {fv : List (Key × V)} {kvs : List (Key × D)}, DaK K μ H fv kvs → DaK K μ H (dropK fv k) (outD kvs k)
  | _, _, .nil => .nil
  | _, _, .cons (n := n) q l => by
    have ih := DaK.out k l
    unfold dropK outD at ih ⊢
    by_cases e : n = k
    · simpa [List.filter_cons, e] using ih
    · simp only [List.filter_cons, e, ne_eq, not_false_eq_true, decide_true, if_true]
      exact .cons q ih
end
section
variable {X : Cx} {G : Gh} {a b e o value : Expr} {ta tb te to tv ty : DE} {pos pos' p apos cpos : Pos} {k j : Nat}
/-- a dict with int and text keys, one that changes or a value -/
def dkK (μ : Mu) (x : D) (kvs : List (Key × D)) : Prop := (∃ c, x = .ref c ∧ μ c = some (.dK kvs)) ∨ x = .dK kvs
theorem dkK_h {K : PySem.W.Frag} {μ : Mu} {H : Hp} {v : V} {x : D} {kvs : List (Key × D)} (j : J K μ H) (h : Da K μ H v x) (e : dkK μ x kvs) : ∃ c fv, v = .ref c ∧ H c = some (.dK fv) ∧ DaK K μ H fv kvs := by
  rcases e with ⟨c, rfl, e⟩ | rfl
  · cases h
    obtain ⟨xs, e2, l⟩ := j c _ e
    exact ⟨c, xs, rfl, e2, l⟩
  · cases h with | dK n e2 l => exact ⟨_, _, rfl, e2, l⟩
/-- d[k] -/
def gDIx : G2 := fun x y μ Q => ∃ kvs kk d, dkK μ x kvs ∧ keyD y = some kk ∧ valD kvs kk = some d ∧ Q d μ
theorem pd_dix (hr : Room k X.A) (ho : PD X G o to) (hi : PD X G a ta) (hs : NoSl a := by first | exact fun _ _ => rfl | (intro _ _; rfl) | rfl) : PD X G (.Subscript o a pos) (dOp gDIx to ta) := by
  obtain ⟨eo, po, fo⟩ := ho.ex
  obtain ⟨ea, pa, fa⟩ := hi.ex
  refine ⟨_, pe_dget (by have := hr.units; omega) po pa hs, @fun σ H ρ μ Q Qd o t kk => ?_⟩
  refine fo o t fun x dx H1 μ1 g1 j1 h1 t1 => ?_
  refine fa (o.grow g1 j1) t1 fun y dy H2 μ2 g2 j2 h2 t2 => ?_
  obtain ⟨kvs, key, d, e0, e2, e3, q⟩ := t2
  obtain ⟨c, fv, rfl, ea, l⟩ := dkK_h j2 (h1.grow g2) e0
  rcases l.val key with ⟨v, d', a1, a2, a3⟩ | ⟨_, a2⟩
  · rw [e3] at a2
    cases a2
    exact ⟨c, v, rfl, .inl ⟨fv, key, .inl ea, h2.key e2, a1.symm⟩, (kk.after (g1.trans g2)).now j2 a3 q⟩
  · rw [e3] at a2; cases a2
/-- k in d, k not in d -/
def gDIn (w : Bool) : G2 := fun y x μ Q => ∃ kvs kk, dkK μ x kvs ∧ keyD y = some kk ∧ Q (.bl ((valD kvs kk).isSome == w)) μ
theorem din_r {x : D} {v : V} {kvs : List (Key × D)} {kk : Key} {μ : Mu} {H : Hp} {y : V} {dy : D} (jj : J X.K μ H) (h1 : Da X.K μ H v x) (e1 : dkK μ x kvs) (h2 : Da X.K μ H y dy) (e2 : keyD dy = some kk) : ∃ c r, v = .ref c ∧ DGet H c y r ∧ r.isSome = (valD kvs kk).isSome := by
  obtain ⟨c, fv, rfl, ea, l⟩ := dkK_h jj h1 e1
  refine ⟨c, valV fv kk, rfl, .inl ⟨fv, kk, .inl ea, h2.key e2, rfl⟩, ?_⟩
  rcases l.val kk with ⟨v, d', a1, a2, _⟩ | ⟨a1, a2⟩ <;> rw [a1, a2] <;> rfl
theorem op_din (hr : Room k X.A) : OpR X (compareOp .In) (rG X.K (gDIn true)) := by
  rintro pins s σ H x y u w Q I rx ry ⟨dx, dy, μ, Qd, jj, hx, hy, ⟨kvs, kk, e1, e2, q⟩, kt⟩
  obtain ⟨c, r, rfl, g, er⟩ := din_r jj hy e1 hx e2
  obtain rfl : w = Value.ref c := ry
  refine d_in (by have := hr.units; omega) I g rx fun s3 I3 => ⟨.bl r.isSome, H, I3, rfl, ?_⟩
  rw [er]
  have e : ((valD kvs kk).isSome == true) = (valD kvs kk).isSome := by cases (valD kvs kk).isSome <;> rfl
  rw [e] at q
  exact kt.now jj (.bl _) q
theorem op_dnin (hr : Room k X.A) : OpR X (compareOp .NotIn) (rG X.K (gDIn false)) := by
  rintro pins s σ H x y u w Q I rx ry ⟨dx, dy, μ, Qd, jj, hx, hy, ⟨kvs, kk, e1, e2, q⟩, kt⟩
  obtain ⟨c, r, rfl, g, er⟩ := din_r jj hy e1 hx e2
  obtain rfl : w = Value.ref c := ry
  refine d_notIn (by have := hr.units; omega) I g rx fun s3 I3 => ⟨.bl (!r.isSome), H, I3, rfl, ?_⟩
  rw [er]
  have e : ((valD kvs kk).isSome == false) = !(valD kvs kk).isSome := by cases (valD kvs kk).isSome <;> rfl
  rw [e] at q
  exact kt.now jj (.bl _) q
theorem pd_din (hr : Room k X.A) (ha : PD X G a ta) (hb : PD X G b tb) (hm : behindInMarks .In b = false := by rfl) : PD X G (.Compare a [.In] [b] pos) (dOp (gDIn true) ta tb) := pd_cmp (op_din hr) lf_rG ha hb hm
theorem pd_dnin (hr : Room k X.A) (ha : PD X G a ta) (hb : PD X G b tb) (hm : behindInMarks .NotIn b = false := by rfl) : PD X G (.Compare a [.NotIn] [b] pos) (dOp (gDIn false) ta tb) := pd_cmp (op_dnin hr) lf_rG ha hb hm
theorem pt_din (hr : Room k X.A) (ha : PD X G a ta) (hb : PD X G b tb) (hm : behindInMarks .In b = false := by rfl) : PDT X G (.Compare a [.In] [b] pos) (dB (dOp (gDIn true) ta tb)) := pt_c (op_din hr) lf_rG ha hb hm
theorem pt_dnin (hr : Room k X.A) (ha : PD X G a ta) (hb : PD X G b tb) (hm : behindInMarks .NotIn b = false := by rfl) : PDT X G (.Compare a [.NotIn] [b] pos) (dB (dOp (gDIn false) ta tb)) := pt_c (op_dnin hr) lf_rG ha hb hm
/-- d[k] = v -/
def gDSet : D → D → D → Mu → (Mu → Prop) → Prop := fun x y d μ Q => ∃ c kvs kk, x = .ref c ∧ μ c = some (.dK kvs) ∧ keyD y = some kk ∧ kvs.length < sizeLine ∧ Q (mup μ c (.dK (setD kvs kk d)))
def dDPut (to ty tv : DE) : DS := fun D ρ μ => tv ρ μ fun d μ1 => to ρ μ1 fun x μ2 => ty ρ μ2 fun y μ3 => gDSet x y d μ3 fun μ4 => D.nx ρ μ4
theorem ds_dput (hr : Room k X.A) (ho : PD X G o to) (hi : PD X G a ty) (hv : PD X G value tv) (hs : swapsWith value (some (.Subscript o a pos')) pos.line X.env = pure false := by rfl) : PDS X G (.Assign [.Subscript o a pos'] value pos) (dDPut to ty tv) := by
  obtain ⟨eo, po, fo⟩ := ho.ex
  obtain ⟨ea, pa, fa⟩ := hi.ex
  obtain ⟨ev, pv, fv⟩ := hv.ex
  refine ⟨_, ps_dput (by have := hr.units; omega) po pa pv hs, @fun σ H ρ μ D Dd o t kk => ?_⟩
  refine fv o t fun v d H1 μ1 g1 j1 h1 t1 => ?_
  have o1 := o.grow g1 j1
  refine fo o1 t1 fun x dx H2 μ2 g2 j2 h2 t2 => ?_
  have o2 := o1.grow g2 j2
  refine fa o2 t2 fun y dy H3 μ3 g3 j3 h3 t3 => ?_
  obtain ⟨c, kvs, key, rfl, e1, e2, e3, q⟩ := t3
  cases h2
  obtain ⟨fv', ec, l⟩ := j3 c _ e1
  have gg : Gr μ3 H3 (mup μ3 c (.dK (setD kvs key d))) (upd H3 c (.dK (putK fv' key v))) := Gr.turn e1
  have jj := j3.turn (o := .dK (putK fv' key v)) (u' := .dK (setD kvs key d)) e1 ⟨_, upd_same, (l.put ((h1.grow g2).grow g3)).grow gg⟩
  exact ⟨c, _, rfl, .inl ⟨fv', key, ec, h3.key e2, by rw [l.length]; exact e3, rfl⟩, kk.nx _ _ _ _ (((g1.trans g2).trans g3).trans gg) ((o2.grow g3 j3).grow gg jj) q⟩
/-! ### displays -/
section
variable {K : PySem.W.Frag} {μ μ' : Mu} {H : Hp}
mutual
theorem Da.re (m : ∀ b, μ b = none → μ' b = none) : ∀ {v : V} {d : D}, Da K μ H v d → Da K μ' H v d
  | _, _, .non => .non
  | _, _, .bl b => .bl b
  | _, _, .int i => .int i
  | _, _, .str x => .str x
  | _, _, .ty n => .ty n
  | _, _, .ref a => .ref a
  | _, _, .lst n h l => .lst (m _ n) h (DaL.re m l)
  | _, _, .sq (.inl ⟨n, h⟩) l => .sq (.inl ⟨m _ n, h⟩) (DaL.re m l)
  | _, _, .sq (.inr h) l => .sq (.inr h) (DaL.re m l)
  | _, _, .tup (.inl ⟨n, o, h, z⟩) l => .tup (.inl ⟨m _ n, o, h, z⟩) (DaL.re m l)
  | _, _, .tup (.inr h) l => .tup (.inr h) (DaL.re m l)
  | _, _, .obj n h l => .obj (m _ n) h (DaF.re m l)
  | _, _, .dK n h l => .dK (m _ n) h (DaK.re m l)
  | _, _, .dN n h l => .dN (m _ n) h (DaN.re m l)
theorem DaL.re (m : ∀ b, μ b = none → μ' b = none) : ∀ {vs : List V} {ds : List D}, DaL K μ H vs ds → DaL K μ' H vs ds
  | _, _, .nil => .nil
  | _, _, .cons h l => .cons (Da.re m h) (DaL.re m l)
theorem DaF.re (m : ∀ b, μ b = none → μ' b = none) : ∀ {vs : List (Str × V)} {ds : List (Str × D)}, DaF K μ H vs ds → DaF K μ' H vs ds
  | _, _, .nil => .nil
  | _, _, .cons h l => .cons (Da.re m h) (DaF.re m l)
theorem DaK.re (m : ∀ b, μ b = none → μ' b = none) : ∀ {vs : List (Key × V)} {ds : List (Key × D)}, DaK K μ H vs ds → DaK K μ' H vs ds
  | _, _, .nil => .nil
  | _, _, .cons h l => .cons (Da.re m h) (DaK.re m l)
theorem DaN.re (m : ∀ b, μ b = none → μ' b = none) : ∀ {vs : List (NestedKey × Addr × Value)} {ds : List (NestedKey × D)}, DaN K μ H vs ds → DaN K μ' H vs ds
  | _, _, .nil => .nil
  | _, _, .cons h z r h2 l => .cons (Da.re m h) z r (Da.re m h2) (DaN.re m l)
end
theorem ObOk.re {a : Addr} (m : ∀ b, μ b = none → μ' b = none) : ∀ {o : Ob}, ObOk K μ H a o → ObOk K μ' H a o
  | .lst _, ⟨vs, h, l⟩ => ⟨vs, h, l.re m⟩
  | .dK _, ⟨vs, h, l⟩ => ⟨vs, h, l.re m⟩
  | .ins _ _, ⟨dx, fv, h, l⟩ => ⟨dx, fv, h, l.re m⟩
  | .hid, h => h
  | .xd _, ⟨fv, h, l⟩ => ⟨fv, h, l.re m⟩
  | .dN _ _, ⟨xs, h, l⟩ => ⟨xs, h, l.re m⟩
  | .dL _ _ _, ⟨xs, es, ep, h, z, l⟩ => ⟨xs, es, ep, h, z, l.re m⟩
/-- what was hidden is shown -/
theorem J.show {p : Addr} {o : HO} {u : Ob} (j : J K μ H) (e : μ p = some .hid) (ok : ObOk K (mup μ p u) (upd H p o) p u) : J K (mup μ p u) (upd H p o) := fun b x q => by
  have m : ∀ b, μ b = none → mup μ p u b = none := fun b z => by rw [mup_ne fun h => by rw [h, e] at z; cases z]; exact z
  by_cases h : b = p
  · subst h
    rw [mup_same] at q
    cases q
    exact ok
  · rw [mup_ne h] at q
    exact ((j.over e) b x q).re m
theorem show_none {p : Addr} {u : Ob} (e : μ p = some .hid) : ∀ b, μ b = none → mup μ p u b = none := fun b z => by rw [mup_ne fun h => by rw [h, e] at z; cases z]; exact z
end
inductive PDP (X : Cx) (G : Gh) (pos : Pos) : List (Option Expr) → List Expr → List (DE × DE) → Prop where
  | nil : PDP X G pos [] [] []
  | cons {e v : Expr} {ks : List (Option Expr)} {vs : List Expr} {tk tv : DE} {trs : List (DE × DE)} (hk : PD X G e tk) (hv : PD X G v tv) (hr : PDP X G pos ks vs trs) : PDP X G pos (some e :: ks) (v :: vs) ((tk, tv) :: trs)
def dPairs : List (DE × DE) → Ro → Mu → (List (D × D) → Mu → Prop) → Prop
  | [], _, μ, Q => Q [] μ
  | (tk, tv) :: r, ρ, μ, Q => tk ρ μ fun x μ1 => tv ρ μ1 fun y μ2 => dPairs r ρ μ2 fun ps μ3 => Q ((x, y) :: ps) μ3
inductive DaP (K : PySem.W.Frag) (μ : Mu) (H : Hp) : List (V × V) → List (D × D) → Prop
  | nil : DaP K μ H [] []
  | cons {a b : V} {c d : D} {r : List (V × V)} {s : List (D × D)} : Da K μ H a c → Da K μ H b d → DaP K μ H r s → DaP K μ H ((a, b) :: r) ((c, d) :: s)
theorem DaP.grow {K : PySem.W.Frag} {μ μ1 : Mu} {H H1 : Hp} (g : Gr μ H μ1 H1) : ∀ {r : List (V × V)} {s : List (D × D)}, DaP K μ H r s → DaP K μ1 H1 r s
  | _, _, .nil => .nil
  | _, _, .cons a b l => .cons (a.grow g) (b.grow g) (l.grow g)
theorem pdp_run {keys : List (Option Expr)} {values : List Expr} {trs : List (DE × DE)} (h : PDP X G pos keys values trs) : ∃ us, PPs X pos keys values us ∧ ∀ {σ : L2.St} {H : Hp} {ρ : Ro} {μ : Mu} {Q : List (V × V) → Hp → Prop} {Qd : List (D × D) → Mu → Prop}, Okd X.K G μ H σ ρ → dPairs trs ρ μ Qd →
    (∀ ps qs H' μ', Gr μ H μ' H' → J X.K μ' H' → DaP X.K μ' H' ps qs → Qd qs μ' → Q ps H') → tPairs us σ H Q := by
  induction h with
  | nil => exact ⟨[], pps_nil, @fun σ H ρ μ Q Qd o t kk => kk [] [] H μ Gr.refl o.j .nil t⟩
  | cons hk hv hr ih =>
    obtain ⟨ek, pk, fk⟩ := hk.ex
    obtain ⟨ev, pv, fv⟩ := hv.ex
    obtain ⟨us, pps, f⟩ := ih
    refine ⟨_, pps_cons pk pv pps, @fun σ H ρ μ Q Qd o t kk => ?_⟩
    refine fk o t fun x dx H1 μ1 g1 j1 h1 t1 => ?_
    have o1 := o.grow g1 j1
    refine fv o1 t1 fun y dy H2 μ2 g2 j2 h2 t2 => ?_
    refine f (o1.grow g2 j2) t2 fun ps qs H3 μ3 g3 j3 l3 t3 => ?_
    exact kk _ _ _ _ ((g1.trans g2).trans g3) j3 (.cons ((h1.grow g2).grow g3) (h2.grow g3) l3) t3
def keysD : List (D × D) → Option (List (Key × D))
  | [] => some []
  | (c, d) :: r => match keyD c, keysD r with
    | some k, some s => some ((k, d) :: s)
    | _, _ => none
def mergeD (kvs more : List (Key × D)) : List (Key × D) := more.foldl (fun acc kv => setD acc kv.1 kv.2) kvs
theorem DaP.keys {K : PySem.W.Frag} {μ : Mu} {H : Hp} : ∀ {ps : List (V × V)} {qs : List (D × D)} {kvs : List (Key × D)}, DaP K μ H ps qs → keysD qs = some kvs → ∃ fv : List (Key × V), ps = fv.map (fun kv => (kV kv.1, kv.2)) ∧ DaK K μ H fv kvs
  | _, _, _, .nil, e => by cases e; exact ⟨[], rfl, .nil⟩
  | _, _, _, .cons (c := c) a b l, e => by
    unfold keysD at e
    split at e
    · rename_i k s e1 e2
      cases e
      obtain ⟨fv, rfl, l'⟩ := DaP.keys l e2
      exact ⟨(k, _) :: fv, by rw [a.key e1]; rfl, .cons b l'⟩
    · cases e
theorem DaK.merge {K : PySem.W.Frag} {μ : Mu} {H : Hp} : ∀ {fm : List (Key × V)} {dm : List (Key × D)} {fv : List (Key × V)} {kvs : List (Key × D)}, DaK K μ H fm dm → DaK K μ H fv kvs → DaK K μ H (mergeK fv fm) (mergeD kvs dm)
  | _, _, _, _, .nil, s => s
  | _, _, _, _, .cons h l, s => l.merge (s.put h)
/-- {k: v, ..}, the dict changes later -/
def dDisp (trs : List (DE × DE)) : DE := fun ρ μ Q => ∀ p, μ p = none → dPairs trs ρ (mup μ p .hid) fun qs μ1 => ∃ kvs, keysD qs = some kvs ∧ kvs.length ≤ 15 ∧ Q (.ref p) (mup μ1 p (.dK (mergeD [] kvs)))
theorem pd_disp {keys : List (Option Expr)} {values : List Expr} {trs : List (DE × DE)} (h : PDP X G pos keys values trs) (hall : keys.all (·.isSome) = true := by rfl) (hl : keys.length = values.length := by rfl) (h0 : keys ≠ [] := by exact fun z => nomatch z) (h15 : keys.length ≤ 15 := by decide) :
    PD X G (.Dict keys values pos) (dDisp trs) := by
  obtain ⟨us, pps, f⟩ := pdp_run h
  refine ⟨_, pe_disp pps hall hl h0 h15, @fun σ H ρ μ Q Qd o t kk => ?_⟩
  intro p np
  have np' := o.j.free np
  have gb : Gr μ H (mup μ p .hid) (upd H p (.dK [])) := Gr.born np
  have jb : J X.K (mup μ p .hid) (upd H p (.dK [])) := o.j.born np (by show upd H p _ p ≠ none; rw [upd_same]; simp)
  refine f (o.grow gb jb) (t p np') fun ps qs H2 μ2 g2 j2 l2 t2 => ?_
  obtain ⟨b1, b2⟩ := g2.hid p _ mup_same upd_same
  obtain ⟨kvs, ek, lk, q⟩ := t2
  obtain ⟨fv, rfl, l⟩ := l2.keys ek
  refine ⟨b2, fv, rfl, by rw [l.length]; exact lk, ?_⟩
  have lm : DaK X.K μ2 H2 (mergeK [] fv) (mergeD [] kvs) := l.merge .nil
  have g3 : Gr μ H (mup μ2 p (.dK (mergeD [] kvs))) (upd H2 p (.dK (mergeK [] fv))) := by
    have ga := gb.trans g2
    refine ⟨fun b u m z => by rw [upd_ne (ne_of_none z np)]; exact ga.keep b u m z, fun b m z => ?_, fun b u m z => ?_⟩
    · by_cases e : b = p
      · rw [e]; exact np
      · rw [mup_ne e] at z; exact ga.new b m z
    · have e := ne_of_none z np
      rw [mup_ne e, upd_ne e]
      exact ga.hid b u m z
  have n2 : μ2 p ≠ none := by rw [b1]; simp
  exact kk _ _ _ _ g3 (j2.show b1 ⟨_, upd_same, (lm.over n2).re (show_none b1)⟩) (.ref p) q
/-- {} -/
def dDNew : DE := fun _ μ Q => ∀ p, μ p = none → Q (.ref p) (mup μ p (.dK []))
theorem pd_dnew : PD X G (.Dict [] [] pos) dDNew := by
  refine ⟨_, pe_dnewK, @fun σ H ρ μ Q Qd o t kk => ?_⟩
  intro p np
  exact kk _ _ _ _ (Gr.born np) (o.j.born (u := .dK []) np ⟨_, upd_same, .nil⟩) (.ref p) (t p (o.j.free np))
/-- d.pop(k), there -/
def gDPop : D → D → Mu → DQ → Prop := fun x y μ Q => ∃ c kvs kk d, x = .ref c ∧ μ c = some (.dK kvs) ∧ keyD y = some kk ∧ valD kvs kk = some d ∧ Q d (mup μ c (.dK (outD kvs kk)))
def dDPop (to ty : DE) : DE := fun ρ μ Q => to ρ μ fun x μ1 => (∃ c kvs, x = .ref c ∧ μ1 c = some (.dK kvs)) ∧ ty ρ μ1 fun y μ2 => gDPop x y μ2 Q
theorem pd_dpop (ho : PD X G o to) (he : PD X G e ty) (m : M1 X o "pop" apos e cpos) : PD X G (.Call (.Attribute o "pop" apos) [e] [] cpos) (dDPop to ty) := by
  obtain ⟨eo, po, fo⟩ := ho.ex
  obtain ⟨ea, pa, fa⟩ := he.ex
  refine ⟨_, pe_dpop1 po pa m, @fun σ H ρ μ Q Qd o t kk => ?_⟩
  refine fo o t fun x dx H1 μ1 g1 j1 h1 t1 => ?_
  obtain ⟨⟨c, kvs, rfl, e1⟩, t1⟩ := t1
  cases h1
  obtain ⟨fv, ec, l⟩ := j1 c _ e1
  refine ⟨c, rfl, .inl ⟨fv, .inl ec⟩, fa (o.grow g1 j1) t1 fun y dy H2 μ2 g2 j2 h2 t2 => ?_⟩
  obtain ⟨c', kvs', key, d, ez, e2, e3, e4, q⟩ := t2
  cases ez
  obtain ⟨fv', ec', l'⟩ := j2 c _ e2
  rcases l'.val key with ⟨v, d', a1, a2, a3⟩ | ⟨_, a2⟩
  · rw [e4] at a2
    cases a2
    have gg : Gr μ2 H2 (mup μ2 c (.dK (outD kvs' key))) (upd H2 c (.dK (dropK fv' key))) := Gr.turn e2
    refine ⟨fv', key, v, ec', h2.key e3, a1, kk _ _ _ _ ((g1.trans g2).trans gg) (j2.turn e2 ⟨_, upd_same, (l'.out key).grow gg⟩) (a3.grow gg) q⟩
  · rw [e4] at a2; cases a2
end
end Dl

/-! Exceptions: raise of an own error, defs that may raise, try .. except X as e. -/
namespace Dl
open PySem PySem.Spec PyProof.Rows L2
/-- the error wish at the data level: class, its dict's address (fields are read through the store), slots, store -/
abbrev DX := Addr → Addr → Ro → Mu → Prop
/-- the same without slots: what a def lets out -/
abbrev DXE := Addr → Addr → Mu → Prop
def wD (K : PySem.W.Frag) (G : Gh) (Ed : DX) : WX := fun cls d σ H => ∃ C dd ρ μ, cls = .ref C ∧ d = some dd ∧ Okd K G μ H σ ρ ∧ Ed C dd ρ μ
/-- what may be raised here reaches its wish -/
structure Wx (X : Cx) (G : Gh) (Ed : DX) : Prop where
  tk : Takes X (wD X.K G Ed)
/-- a promise over data of a def that may raise -/
abbrev SpX := List D → Mu → DQ → DXE → Prop
def KtE (K : PySem.W.Frag) (μ : Mu) (H : Hp) (E : XK) (Ed : DXE) : Prop := ∀ C dd H' μ', Gr μ H μ' H' → J K μ' H' → Ed C dd μ' → E (.ref C) (some dd) H'
def upX (K : PySem.W.Frag) (spd : SpX) : Sp := fun vs H Q E => ∃ ds μ Qd Ed, J K μ H ∧ DaL K μ H vs ds ∧ spd ds μ Qd Ed ∧ Kt K μ H Q Qd ∧ KtE K μ H E Ed
section
variable {P : Program} {w : World} {K : PySem.W.Frag} {mg : Str → Option Value} {base : Heap} {k : Nat} {f : Addr} {fd : FuncData} {ps N : List Str} {spd : SpX} {x qual : Str} {st : Stmt}
/-- a def that may raise, by its body -/
theorem okX (F : Fun K x qual st f fd) (S : FnScope N ps (defScope st)) (ar : ∀ {ds μ Q Ed}, spd ds μ Q Ed → ds.length = ps.length)
    (body : ∀ (X : Cx) (G : Gh) (Ed : DXE), (∃ cdv A outer s H E, X = cxOf (CX P w) P w K mg base N qual (defScope st) f cdv A outer s H E) → X.A.guards = some [] → Room k X.A → Wx X G (fun C dd _ μ => Ed C dd μ) → PassesOwn (model X.prog X.w) X.A X.env X.xe →
      ∃ t, PDSs X G (defBody st) t ∧ ∀ {ds μ Q}, spd ds μ Q Ed → t { nx := fun _ μ => Q .non μ, rt := Q } (startD N ds) μ) :
    FnG P w K mg base (CX P w) (k + 1) f fd ps (upX K spd) := by
  refine okG F S (@fun vs H Q E h => ?_) (@fun cdv A outer s H vs Q E hg hr h => ?_)
  · obtain ⟨ds, μ, Qd, Ed, j, l, q, _⟩ := h
    exact l.length.trans (ar q)
  · obtain ⟨ds, μ, Qd, Ed, j, l, q, kk, ke⟩ := h
    have tk : Takes (cxOf (CX P w) P w K mg base N qual (defScope st) f cdv A outer s H E) (fun cls d _ H' => E cls d H') := takes_of rfl rfl rfl rfl
    have wx : Wx (cxOf (CX P w) P w K mg base N qual (defScope st) f cdv A outer s H E) (ghost μ H) (fun C dd _ μ => Ed C dd μ) := ⟨tk.imp fun c d σ H' h => by
      obtain ⟨C, dd, ρ, μ', rfl, rfl, o, e⟩ := h
      exact ke C dd H' μ' o.g o.j e⟩
    obtain ⟨t, ht, hq⟩ := body _ (ghost μ H) Ed ⟨cdv, A, outer, s, H, E, rfl⟩ hg hr wx (passes_of rfl)
    obtain ⟨ts, p, fn⟩ := ht.ex
    exact ⟨ts, p, fn (start_ok j Gr.refl l) (hq q) ⟨fun σ' H' ρ' μ' g' o' q' => kk _ _ _ _ g' o'.j .non q', kk, fun _ _ _ _ _ _ z => z.elim, fun _ _ _ _ _ _ z => z.elim⟩⟩
end
/-! ### calls of defs that may raise -/
section
variable {X : Cx} {G : Gh} {Ed : DX} {pins : List (Addr × Obj)} {σ : L2.St} {H : Hp} {s : Shared} {k : Nat} {f : Addr} {fd : FuncData} {ps : List Str} {spd : SpX} {A : Around} {R : Value → Shared → Prop} {us ws us' : List Value} {vs' : List V} {ks : List Str} {μ : Mu} {ρ : Ro} {ds : List D} {Qd : DQ}
def eX (K : PySem.W.Frag) (μ : Mu) (H : Hp) (Ed : DXE) : XK := fun cls d H' => ∃ C dd μ', cls = .ref C ∧ d = some dd ∧ Gr μ H μ' H' ∧ J K μ' H' ∧ Ed C dd μ'
theorem kteX {K : PySem.W.Frag} {Ed : DXE} : KtE K μ H (eX K μ H Ed) Ed := fun C dd H' μ' g j e => ⟨C, dd, μ', rfl, rfl, g, j, e⟩
theorem erX (wx : Wx X G Ed) (I : Inv X pins σ H s) (o : Okd X.K G μ H σ ρ) {u : Value} {s' : Shared} (c : CX X.prog X.w X.stack H s (eX X.K μ H fun C dd μ' => Ed C dd ρ μ') u s') : X.xe u s' := by
  refine wx.tk _ _ (XE.of_call I (fun cls d H' h => ?_) c)
  obtain ⟨C, dd, μ', e1, e2, g, j, e⟩ := h
  exact ⟨C, dd, ρ, μ', e1, e2, o.grow g j, e⟩
theorem run_atX (wx : Wx X G Ed) (F : FnG X.prog X.w X.K X.mg X.base (CX X.prog X.w) k f fd ps (upX X.K spd)) (hgu : A.guards = some []) (hr : Room k A) (I : Inv X pins σ H s) (e0 : Env0 X.prog X.w X.K X.mg X.base A X.stack s H) (o : Okd X.K G μ H σ ρ) (hb : BindsTo s fd ⟨us, ks.zip ws⟩ (ps.zip us')) (hv : Vals vs' us')
    (l : DaL X.K μ H vs' ds) (q : spd ds μ Qd fun C dd μ' => Ed C dd ρ μ') (h : ∀ u s', EP X pins σ (KD X.K μ H Qd) u s' → R u s') : wpAny (model X.prog X.w) A (call (.ref f) us (ks.zip ws)) R X.xe s := by
  refine wpAny_call (codeAny_mono (F.go (E := eX X.K μ H fun C dd μ' => Ed C dd ρ μ') hgu hr e0 hb hv ⟨ds, μ, Qd, _, o.j, l, q, ktKD, kteX⟩) fun r s' hq => ?_)
  match r, hq with
  | .error e, hq => exact erX wx I o hq
  | .ok (.ret u), hq => exact h u s' (I.after hq)
end
structure ClX (P : Program) (w : World) (K : PySem.W.Frag) (mg : Str → Option Value) (base : Heap) (k : Nat) (x : Str) (spd : SpX) (n : Nat) (ks : List Str) (dd : List D) (ix : List Nat) : Prop where
  ex : ∃ f fd ps, mg x = some (.ref f) ∧ PySem.W.keepIn K (.ref f) = true ∧ FnG P w K mg base (CX P w) k f fd ps (upX K spd) ∧ Bnd K fd ps n ks dd ix
structure MeX (P : Program) (w : World) (K : PySem.W.Frag) (mg : Str → Option Value) (base : Heap) (k : Nat) (C : Addr) (m : Str) (spd : SpX) (n : Nat) (ks : List Str) (dd : List D) (ix : List Nat) : Prop where
  ex : ∃ f fd ps, Cls K C ∧ Meth K C m f ∧ FnG P w K mg base (CX P w) k f fd ps (upX K spd) ∧ Bnd K fd ps (n + 1) ks dd ix
def dCallX (Ed : DX) (spd : SpX) (dd : List D) (ix : List Nat) (t : DA) : DE := fun ρ μ Q => t ρ μ fun ds μ1 => spd (pick ix (ds ++ dd)) μ1 Q fun C d μ' => Ed C d ρ μ'
def dMethX (Ed : DX) (C : Addr) (m : Str) (spd : SpX) (dd : List D) (ix : List Nat) (to : DE) (t : DA) : DE := fun ρ μ Q => to ρ μ fun x μ1 => (∃ fs, oin μ1 x = some (C, fs) ∧ fs.lookup m = none) ∧ t ρ μ1 fun ds μ2 => spd (pick ix (x :: (ds ++ dd))) μ2 Q fun C d μ' => Ed C d ρ μ'
section
variable {X : Cx} {G : Gh} {Ed : DX} {pos p apos : Pos} {o : Expr} {es : List Expr} {kws : List Keyword} {tA : DA} {to : DE} {n k j : Nat} {ks : List Str} {dd : List D} {ix : List Nat} {spd : SpX} {x m : Str} {C : Addr}
theorem pd_cx (wx : Wx X G Ed) (c : ClX X.prog X.w X.K X.mg X.base k x spd n ks dd ix) (hr : Room j X.A) (hgu : X.A.guards = some []) (ha : PDC X G pos es kws n ks tA) (hk : k ≤ j := by decide) (hg : Gl X x := by rfl) (hdb : (x == ("__debug__" : Str)) = false := by decide) : PD X G (.Call (.Name x p) es kws pos) (dCallX Ed spd dd ix tA) := by
  obtain ⟨f, fd, ps, nm, kp, F, hb⟩ := c.ex
  refine .of fun pins s σ H ρ μ Q Qd I o q kk => ?_
  refine wpAny_Call_Name_kw (ld_glob I hg nm ?_ hdb)
  refine ha.go I kp o q fun us ws vs zs ds H2 μ2 s2 I2 r1 r2 h1 h2 g2 j2 l2 q2 => ?_
  obtain ⟨vs', us', rv, bt, dl⟩ := hb.to s2 us ws vs zs I2.kIn h1 h2 r1 r2
  refine run_atX wx F hgu (hr.mono hk) I2 I2.env0 (o.grow g2 j2) bt rv (dl l2) q2 ?_
  rintro u s' ⟨v, H3, I3, ru, d, μ3, g3, j3, h3, q3⟩
  exact ⟨v, H3, I3, ru, kk _ _ _ _ (g2.trans g3) j3 h3 q3⟩
theorem pd_mx {pl : Sem Bool} (wx : Wx X G Ed) (c : MeX X.prog X.w X.K X.mg X.base k C m spd n ks dd ix) (hr : Room j X.A) (hgu : X.A.guards = some []) (ho : PD X G o to) (ha : PDC X G pos es kws n ks tA) (hk : k ≤ j := by decide)
    (ht : eval (.Call (.Attribute o m apos) es kws pos) X.env = (do
      let ov ← eval o X.env
      standAt apos.atName
      let (f, first) ← holding [ov] (getMethod ov m pl)
      callWith pos f first (backTo pos (starEach es X.env)) (backToKw pos (keywordEach kws X.env))) := by rfl) : PD X G (.Call (.Attribute o m apos) es kws pos) (dMethX Ed C m spd dd ix to tA) := by
  obtain ⟨f, fd, ps, c, me, F, hb⟩ := c.ex
  refine .of fun pins s σ H ρ μ Q Qd I ok q kk => ?_
  refine PySem.W.methodCall_KW (pl := pl) (thn (ho.run I ok q) ?_) ht
  rintro u s1 ⟨v, H1, I1, ru, d, μ1, g1, j1, h1, ⟨fs, e1, e2⟩, q1⟩
  obtain ⟨a, dx, fv, rfl, ea, l⟩ := h1.ins j1 e1
  obtain rfl : u = Value.ref a := ru
  have hn : fv.lookup m = none := by
    rcases l.look (f := m) with ⟨_, _, _, b, _⟩ | ⟨b, _⟩
    · rw [e2] at b; cases b
    · exact b
  have ok1 := ok.grow g1 j1
  refine getmeth_ok I1 ea c me hn ?_
  refine ha.go (first := [.ref a]) I1 me.kp ok1 q1 fun us ws vs zs ds H2 μ2 s2 I2 r1 r2 h1' h2 g2 j2 l2 q2 => ?_
  obtain ⟨vs', us', rv, bt, dl⟩ := hb.to s2 (.ref a :: us) ws (.ref a :: vs) zs I2.kIn (by rw [List.length_cons, h1']) h2 (.cons rfl r1) r2
  refine run_atX wx F hgu (hr.mono hk) I2 I2.env0 (ok1.grow g2 j2) bt rv (dl (.cons (h1.grow g2) l2)) q2 ?_
  rintro u s' ⟨v, H3, I3, ru, d, μ3, g3, j3, h3, q3⟩
  exact ⟨v, H3, I3, ru, kk _ _ _ _ ((g1.trans g2).trans g3) j3 h3 q3⟩
end
/-! ### the errors' __init__ -/
/-- what the written part says of the class whose __init__ is ValueError's -/
structure BaseE (K : PySem.W.Frag) (B : Addr) : Prop where
  rd : PySem.W.readsIn K B (.type "type") = true
  ga : PySem.W.specialIn K (.ref B) "__getattribute__" = some (some (.builtin "type.__getattribute__"))
  at_ : PySem.W.findCls K (.ref B) (.type "type") "__init__" = some (.val (.builtin "ValueError.__init__"))
section
variable {X : Cx} {e : Expr} {es : List Expr} {ta : TA} {p1 p2 pos : Pos} {x : Str} {B : Addr}
/-- B.__init__(self, ..) -/
theorem pe_binit {pl : Sem Bool} (b : BaseE X.K B) (hm : X.mg x = some (.ref B)) (ha : PA X (e :: es) ta) (hg : Gl X x := by rfl) (hdb : (x == ("__debug__" : Str)) = false := by decide)
    (hc : eval (.Call (.Attribute (.Name x p1) "__init__" p2) (e :: es) [] pos) X.env = (do
      let ov ← eval (.Name x p1) X.env
      standAt p2.atName
      let (f, first) ← holding [ov] (getMethod ov "__init__" pl)
      callWith pos f first (backTo pos (starEach (e :: es) X.env)) (backToKw pos (keywordEach [] X.env))) := by rfl)
    (he : starEach (e :: es) X.env = (false, eval e X.env) :: starEach es X.env := by rfl) (hpl : (backTo pos (starEach es X.env)).any (·.1) = false := by rfl) :
    PE X (.Call (.Attribute (.Name x p1) "__init__" p2) (e :: es) [] pos) (tVeI X.K ta) := by
  refine ⟨fun pins s σ H Q I h => ?_⟩
  refine PySem.W.methodCall_KW (ld_glob I hg hm ?_ hdb) hc
  refine PySem.W.method_cls I.kIn b.ga (PySem.W.cls_value I.kIn b.rd b.at_ (by decide +kernel) ?_)
  show wpAny _ _ (callWith pos (Value.builtin "ValueError.__init__") [] (backTo pos (starEach (e :: es) X.env)) []) _ _ _
  refine PyProof.Rows.callWith_method1 (thn (ha.run pos pins _ σ H _ (I.tok _) h) ?_) he hpl
  rintro us s1 ⟨vs, H1, I1, r1, a, C, ws, rfl, hl, T, ea, q⟩
  match us, r1 with
  | u0 :: ur, .cons ra rw' =>
    obtain rfl : u0 = Value.ref a := ra
    exact oinit_ok T I1 ea (by rw [← Paired.length rw', sizeLine_eq]; omega) fun s' J => ⟨.non, H1, J, rfl, q⟩
end
/-- an error's __init__ with one field, with two: what it leaves (the layer's level) -/
def sp1 (K : PySem.W.Frag) (C : Addr) (f : Str) : Sp := fun vs H Q _ => ∃ a y, vs = [.ref a, y] ∧ OexC K C ∧ PySem.W.findIn K (.ref C) f = some none ∧ H a = some (exo a C none) ∧
  ∀ dx, H dx = none → dx ≠ a → Q .non (upd (upd H dx (exd dx [(f, y)])) a (exo a C (some dx)))
def sp2 (K : PySem.W.Frag) (C : Addr) (f g : Str) : Sp := fun vs H Q _ => ∃ a y z, vs = [.ref a, y, z] ∧ OexC K C ∧ PySem.W.findIn K (.ref C) f = some none ∧ PySem.W.findIn K (.ref C) g = some none ∧ H a = some (exo a C none) ∧
  ∀ dx, H dx = none → dx ≠ a → Q .non (upd (upd (upd H dx (exd dx [(f, y)])) a (exo a C (some dx))) dx (exd dx [(g, z), (f, y)]))
theorem read1 {K : PySem.W.Frag} {C : Addr} {f : Str} {tx : Str} {vs : List V} {H : Hp} {Q : VK} {E : XK} (h : sp1 K C f vs H Q E) :
    tSeq (tDrop (tVeI K (tCons (tVar 0) (tCons (tC (.str tx)) tNil)))) (tOst K f (tVar 0) (tVar 1)) { nx := fun _ H' => Q .non H', rt := Q } (start ["self", "p"] vs) H := by
  obtain ⟨a, y, rfl, T, hf, ea, q⟩ := h
  exact ⟨_, rfl, a, C, _, rfl, (by show 1 ≤ 1000; decide), T, ea, _, rfl, _, rfl, a, C, rfl, T, hf, .inl ⟨ea, q⟩⟩
theorem read2 {K : PySem.W.Frag} {C : Addr} {f g : Str} {tx : Str} {vs : List V} {H : Hp} {Q : VK} {E : XK} (h : sp2 K C f g vs H Q E) :
    tSeq (tDrop (tVeI K (tCons (tVar 0) (tCons (tC (.str tx)) tNil)))) (tSeq (tOst K f (tVar 0) (tVar 1)) (tOst K g (tVar 0) (tVar 2))) { nx := fun _ H' => Q .non H', rt := Q } (start ["self", "p", "q"] vs) H := by
  obtain ⟨a, y, z, rfl, T, hf, hg, ea, q⟩ := h
  refine ⟨_, rfl, a, C, _, rfl, (by show 1 ≤ 1000; decide), T, ea, _, rfl, _, rfl, a, C, rfl, T, hf, .inl ⟨ea, fun dx n ne => ?_⟩⟩
  exact ⟨_, rfl, _, rfl, a, C, rfl, T, hg, .inr ⟨dx, _, upd_same, (upd_ne ne).trans upd_same, (by show 1 ≤ 900; decide), q dx n ne⟩⟩
/-! ### raise -/
def dRaise1 (Ed : DX) (C : Addr) (f : Str) (tA : DA) : DS := fun _ ρ μ => tA ρ μ fun ds μ1 => ∃ d, ds = [d] ∧ ∀ dd, μ1 dd = none → Ed C dd ρ (mup μ1 dd (.xd [(f, d)]))
def dRaise2 (Ed : DX) (C : Addr) (f g : Str) (tA : DA) : DS := fun _ ρ μ => tA ρ μ fun ds μ1 => ∃ d e, ds = [d, e] ∧ ∀ dd, μ1 dd = none → Ed C dd ρ (mup μ1 dd (.xd [(g, e), (f, d)]))
/-- an error class whose __init__ keeps sp -/
structure ErrC (P : Program) (w : World) (K : PySem.W.Frag) (mg : Str → Option Value) (base : Heap) (k : Nat) (x : Str) (C : Addr) (sp : Sp) : Prop where
  oe : OexC K C
  nm : mg x = some (.ref C)
  ex : ∃ fI fd ps, PySem.W.findIn K (.ref C) "__init__" = some (some (.ref fI)) ∧ PySem.W.typeIn K (.ref fI) = some (.type "function") ∧ FnOk P w K mg base CX0 k fI fd ps sp ∧ Binds K fd ps []
section
variable {X : Cx} {G : Gh} {Ed : DX} {pos p pos' : Pos} {e : Expr} {es : List Expr} {tA : DA} {k j : Nat} {x f g : Str} {C : Addr}
theorem heap_end {H1 : Hp} {a dx : Addr} {o1 o2 o3 : HO} {fs : List (Str × V)} (na : H1 a = none) (ne : dx ≠ a) : upd (del (upd (upd (upd H1 a o1) dx o2) a o3) a) dx (.xd fs) = upd H1 dx (.xd fs) := by
  funext b
  by_cases e1 : b = dx
  · rw [e1, upd_same, upd_same]
  · rw [upd_ne e1, upd_ne e1]
    by_cases e2 : b = a
    · rw [e2, del_same, na]
    · rw [del_ne e2, upd_ne e2, upd_ne e1, upd_ne e2]
theorem heap_end2 {H1 : Hp} {a dx : Addr} {o1 o2 o3 o4 : HO} {fs : List (Str × V)} (na : H1 a = none) (ne : dx ≠ a) : upd (del (upd (upd (upd (upd H1 a o1) dx o2) a o3) dx o4) a) dx (.xd fs) = upd H1 dx (.xd fs) := by
  funext b
  by_cases e1 : b = dx
  · rw [e1, upd_same, upd_same]
  · rw [upd_ne e1, upd_ne e1]
    by_cases e2 : b = a
    · rw [e2, del_same, na]
    · rw [del_ne e2, upd_ne e1, upd_ne e2, upd_ne e1, upd_ne e2]
theorem ds_raise1 (hc : X.calm = true) (wx : Wx X G Ed) (c : ErrC X.prog X.w X.K X.mg X.base k x C (sp1 X.K C f)) (hf : PySem.W.findIn X.K (.ref C) f = some none) (hr : Room j X.A) (ha : PDA X G (e :: es) tA) (hk : k + 1 ≤ j := by decide) (hg : Gl X x := by rfl)
    (hdb : (x == ("__debug__" : Str)) = false := by decide) (he : starEach (e :: es) X.env = (false, eval e X.env) :: starEach es X.env := by rfl) (hpl : (backTo pos' (starEach es X.env)).any (·.1) = false := by rfl) :
    PDS X G (.Raise (some (.Call (.Name x p) (e :: es) [] pos')) none pos) (dRaise1 Ed C f tA) := by
  obtain ⟨fI, fd, ps, i1, i2, F, hb⟩ := c.ex
  obtain ⟨ta, pa, fa⟩ := ha.ex
  refine ⟨_, ps_raise hc wx.tk (pmk_oex c.oe i1 i2 F (hr.mono hk) hb .nil pass0 hg c.nm pa hdb he hpl), @fun σ H ρ μ D Dd o t kk => ?_⟩
  refine fa o t fun vs ds H1 μ1 g1 j1 l1 t1 => ?_
  obtain ⟨d, rfl, q⟩ := t1
  obtain ⟨v, rfl, hv⟩ := l1.one
  refine ⟨(by show 1 ≤ 1000; decide), fun a na => ⟨a, v, rfl, c.oe, hf, upd_same, fun dx nx ne => ?_⟩⟩
  have n1 : H1 dx = none := by rw [upd_ne ne] at nx; exact nx
  refine ⟨rfl, dx, _, upd_same, (upd_ne ne).trans upd_same, n1, ?_⟩
  rw [heap_end na ne]
  have gb : Gr μ1 H1 (mup μ1 dx (.xd [(f, d)])) (upd H1 dx (.xd [(f, v)])) := Gr.born n1
  have jb := j1.born (o := .xd [(f, v)]) (u := .xd [(f, d)]) n1 ⟨_, upd_same, .cons (hv.grow gb) .nil⟩
  exact ⟨C, dx, ρ, _, rfl, rfl, (o.grow g1 j1).grow gb jb, q dx (j1.free n1)⟩
theorem ds_raise2 (hc : X.calm = true) (wx : Wx X G Ed) (c : ErrC X.prog X.w X.K X.mg X.base k x C (sp2 X.K C f g)) (hf : PySem.W.findIn X.K (.ref C) f = some none) (hf2 : PySem.W.findIn X.K (.ref C) g = some none) (hr : Room j X.A) (ha : PDA X G (e :: es) tA) (hk : k + 1 ≤ j := by decide) (hg : Gl X x := by rfl)
    (hdb : (x == ("__debug__" : Str)) = false := by decide) (he : starEach (e :: es) X.env = (false, eval e X.env) :: starEach es X.env := by rfl) (hpl : (backTo pos' (starEach es X.env)).any (·.1) = false := by rfl) :
    PDS X G (.Raise (some (.Call (.Name x p) (e :: es) [] pos')) none pos) (dRaise2 Ed C f g tA) := by
  obtain ⟨fI, fd, ps, i1, i2, F, hb⟩ := c.ex
  obtain ⟨ta, pa, fa⟩ := ha.ex
  refine ⟨_, ps_raise hc wx.tk (pmk_oex c.oe i1 i2 F (hr.mono hk) hb .nil pass0 hg c.nm pa hdb he hpl), @fun σ H ρ μ D Dd o t kk => ?_⟩
  refine fa o t fun vs ds H1 μ1 g1 j1 l1 t1 => ?_
  obtain ⟨d, d2, rfl, q⟩ := t1
  obtain ⟨v, v2, rfl, hv, hv2⟩ := l1.two'
  refine ⟨(by show 2 ≤ 1000; decide), fun a na => ⟨a, v, v2, rfl, c.oe, hf, hf2, upd_same, fun dx nx ne => ?_⟩⟩
  have n1 : H1 dx = none := by rw [upd_ne ne] at nx; exact nx
  refine ⟨rfl, dx, _, (upd_ne (Ne.symm ne)).trans upd_same, upd_same, n1, ?_⟩
  rw [heap_end2 na ne]
  have gb : Gr μ1 H1 (mup μ1 dx (.xd [(g, d2), (f, d)])) (upd H1 dx (.xd [(g, v2), (f, v)])) := Gr.born n1
  have jb := j1.born (o := .xd [(g, v2), (f, v)]) (u := .xd [(g, d2), (f, d)]) n1 ⟨_, upd_same, .cons (hv2.grow gb) (.cons (hv.grow gb) .nil)⟩
  exact ⟨C, dx, ρ, _, rfl, rfl, (o.grow g1 j1).grow gb jb, q dx (j1.free n1)⟩
end
end Dl

/-! try .. except X as e. -/
namespace Dl
open PySem PySem.Spec PyProof.Rows L2
/-- since the entry of a try, too -/
def ghost2 (G : Gh) (μ : Mu) (H : Hp) : Gh := ⟨fun μ' H' => G.at_ μ' H' ∧ Gr μ H μ' H', fun a b => ⟨G.go a.1 b, a.2.trans b⟩⟩
theorem Okd.ghost2 {K : PySem.W.Frag} {G : Gh} {μ : Mu} {H : Hp} {σ : L2.St} {ρ : Ro} (o : Okd K G μ H σ ρ) : Okd K (Dl.ghost2 G μ H) μ H σ ρ := ⟨o.j, ⟨o.g, Gr.refl⟩, o.len, o.of⟩
theorem Okd.back {K : PySem.W.Frag} {G : Gh} {μ μ1 : Mu} {H H1 : Hp} {σ : L2.St} {ρ : Ro} (o : Okd K (Dl.ghost2 G μ1 H1) μ H σ ρ) : Okd K G μ H σ ρ := ⟨o.j, o.g.1, o.len, o.of⟩
/-- try: body / except x as n: suite; exm tells which classes the clause takes -/
def dTryAs (exm : Addr → Option Bool) (i : Nat) (tb : DX → DS) (ts : Addr → Addr → Addr → DS) (Ed : DX) : DS := fun D ρ μ =>
  tb (fun C dd ρ' μ' => ∃ b, exm C = some b ∧ (b = true → ∀ a, ts a C dd ⟨fun ρ2 μ2 => D.nx (ρ2.set i none) μ2, D.rt, fun ρ2 μ2 => D.bk (ρ2.set i none) μ2, fun ρ2 μ2 => D.ct (ρ2.set i none) μ2⟩ (ρ'.set i (some (.ref a))) μ') ∧ (b = false → Ed C dd ρ' μ')) D ρ μ
def canB (K : PySem.W.Frag) (tb : DX → DS) (W : WX) : TS := fun D σ H => ∃ G' Ed' ρ μ Dd, (∀ c d σ' H', wD K G' Ed' c d σ' H' → W c d σ' H') ∧ Okd K G' μ H σ ρ ∧ tb Ed' Dd ρ μ ∧ EK K G' μ H D Dd
def canS (K : PySem.W.Frag) (G : Gh) (ts : Addr → Addr → Addr → DS) (a : Addr) (cls : Value) (d : Option Addr) : TS := fun D σ H => ∃ C dd ρ μ Dd, cls = .ref C ∧ d = some dd ∧ Okd K G μ H σ ρ ∧ ts a C dd Dd ρ μ ∧ EK K G μ H D Dd
section
variable {X : Cx} {G : Gh} {Ed : DX} {x n : Str} {c : Value} {i : Nat} {body suite : List Stmt} {b₀ : Stmt} {np pos pos' : Pos} {tb : DX → DS} {ts : Addr → Addr → Addr → DS} {exm : Addr → Option Bool}
theorem ds_tryAs (hs : X.stack = X.env :: X.outer) (hf : X.env.frame = some X.env.locals) (hN : X.N.Nodup) (wx : Wx X G Ed) (hc : Names X x c) (hx : ∀ C b, exm C = some b → PySem.W.exmOne X.K (.ref C) c = some b)
    (hb : ∀ (G' : Gh) (Ed' : DX) (pn : List (Addr × Obj)) (xe : Value → Shared → Prop), Wx (X.tr pn xe) G' Ed' → PassesOwn (model X.prog X.w) X.A X.env xe → PDSs (X.tr pn xe) G' body (tb Ed'))
    (hsu : ∀ (a : Addr) (oe : Obj) (C dd : Addr) (pn : List (Addr × Obj)), Zc (.ref C) (some dd) oe → (∃ vs, oe.data = .fields vs) → PDSs (X.suite a ((a, oe) :: pn)) G (b₀ :: suite) (ts a C dd))
    (hi : X.N[i]? = some n := by rfl) (hln : X.env.kindOf n = some .local := by rfl) :
    PDS X G (.Try body [.ExceptHandler (some (.Name x np)) (some n) (b₀ :: suite) pos'] [] [] pos) (dTryAs exm i tb ts Ed) := by
  refine ⟨_, ps_try_as (tb := canB X.K tb) (ts := canS X.K G ts) (Wout := wD X.K G Ed) hs hf hN hi hln hc wx.tk (fun W pn xe tk po => ⟨fun pins s σ H D I h => ?_⟩) (fun a oe cls d pn hz hd => ⟨fun pins s σ H D I h => ?_⟩), @fun σ H ρ μ D Dd o t kk => ?_⟩
  · obtain ⟨G', Ed', ρ, μ, Dd, w, o, t, kk⟩ := h
    obtain ⟨te, pe, fe⟩ := (hb G' Ed' pn xe ⟨tk.imp w⟩ po).ex
    exact pe.run pins s σ H D I (fe o t kk)
  · obtain ⟨C, dd, ρ, μ, Dd, rfl, rfl, o, t, kk⟩ := h
    obtain ⟨te, pe, fe⟩ := (hsu a oe C dd pn hz hd).ex
    exact pe.run pins s σ H D I (fe o t kk)
  · refine ⟨Dl.ghost2 G μ H, _, ρ, μ, Dd, ?_, o.ghost2, t, ⟨fun σ' H' ρ' μ' g o' q => kk.nx _ _ _ _ g o'.back q, kk.rt, fun σ' H' ρ' μ' g o' q => kk.bk _ _ _ _ g o'.back q, fun σ' H' ρ' μ' g o' q => kk.ct _ _ _ _ g o'.back q⟩⟩
    rintro cls d σ' H' ⟨C, dd, ρ', μ', rfl, rfl, o', b, e1, h1, h2⟩
    have g' : Gr μ H μ' H' := o'.g.2
    refine ⟨b, hx C b e1, fun hb1 a na => ?_, fun hb2 => ⟨C, dd, ρ', μ', rfl, rfl, o'.back, h2 hb2⟩⟩
    refine ⟨C, dd, _, μ', _, rfl, rfl, o'.back.set i (.ref a), h1 hb1 a, ⟨?_, kk.rt.after g', ?_, ?_⟩⟩
    · exact fun σ2 H2 ρ2 μ2 g2 o2 q2 => kk.nx _ _ _ _ (g'.trans g2) (o2.forget i none) q2
    · exact fun σ2 H2 ρ2 μ2 g2 o2 q2 => kk.bk _ _ _ _ (g'.trans g2) (o2.forget i none) q2
    · exact fun σ2 H2 ρ2 μ2 g2 o2 q2 => kk.ct _ _ _ _ (g'.trans g2) (o2.forget i none) q2
/-- e.f in a suite -/
def dXf (a dd : Addr) (f : Str) (te : DE) : DE := fun ρ μ Q => te ρ μ fun x μ1 => x = .ref a ∧ ∃ fs d, μ1 dd = some (.xd fs) ∧ fs.lookup f = some d ∧ Q d μ1
theorem pd_xf {a C dd : Addr} {oe : Obj} {pn : List (Addr × Obj)} {e : Expr} {te : DE} {f : Str} (T : XfC X.K C) (hno : PySem.W.findIn X.K (.ref C) f = some none) (hz : Zc (.ref C) (some dd) oe) (hf : ∃ vs, oe.data = .fields vs) (he : PD (X.suite a ((a, oe) :: pn)) G e te)
    (hb : attributeBase e f X.env (eval e X.env) = eval e X.env := by rfl) : PD (X.suite a ((a, oe) :: pn)) G (.Attribute e f pos) (dXf a dd f te) := by
  obtain ⟨ee, pe, fe⟩ := he.ex
  refine ⟨_, pe_xf T hno hz hf pe hb, @fun σ H ρ μ Q Qd o t kk => ?_⟩
  refine fe o t fun x dx H1 μ1 g1 j1 h1 t1 => ?_
  obtain ⟨rfl, fs, d, e1, e2, q⟩ := t1
  cases h1
  obtain ⟨fv, ed, l⟩ := j1 dd _ e1
  rcases l.look (f := f) with ⟨v, d', a1, a2, a3⟩ | ⟨_, a2⟩
  · rw [e2] at a2
    cases a2
    exact ⟨rfl, rfl, dd, fv, v, rfl, ed, a1, (kk.after g1).now j1 a3 q⟩
  · rw [e2] at a2; cases a2
end
end Dl

/-! isinstance of a caught error that has fields. -/
namespace PySem.W
open PySem PySem.Spec PySem.Calls PyProof.Rows
section
variable {prog : Program} {w : World} {A : Around} {E : Value → Shared → Prop} {s : Shared} {K : Frag} {x D : Addr} {ox od : Obj}
theorem dl_exc_class {Q : Option Value → Shared → Prop} (T : L2.ExcC K D) (X : K.In s.heap) (I : InstAt s.heap x ox D (some od)) (h : Q (some (.ref D)) { s with toks := s.toks + 1 }) : wpAny (model prog w) A (getAttr? (.ref x) "__class__") Q E s := by
  have hf : findObj K D (some od) "__class__" = some (.bind (.builtin "getset_descriptor.__get__") (.builtin "object.__class__")) := findObj_data (by obtain ⟨cd, hc, _⟩ := any_some T.hd; rw [hc]; rfl) T.ha T.hn T.ht
  obtain ⟨hp, g, d, t, os⟩ := s
  have ty := I.type (M := model prog w)
  have sub : Looks (model prog w) hp (isInstance (.ref x) (.type "BaseException")) true := ty.andThen (looks_subIn X T.hs)
  have no : (Value.builtin "BaseException.__getattribute__" == Value.builtin "object.__getattribute__") = false := by decide +kernel
  unfold getAttr? getAttrBy? getAttrBy
  refine wpAny_bind (wpAny_mkText (wpAny_bind (wpAny_attempt (wpAny_holding (wpAny_bind (ty.at (wpAny_bind ((looks_findIn (M := model prog w) X T.hg).at ?_))))))))
  have no2 : (onTheHeap (Value.ref D) && Value.builtin "BaseException.__getattribute__" == Value.builtin "object.__getattribute__") = false := by rw [no]; exact Bool.and_false _
  show wpAny (model prog w) A (if (onTheHeap (Value.ref D) && Value.builtin "BaseException.__getattribute__" == Value.builtin "object.__getattribute__") = true then _ else _) _ _ _
  rw [no2, if_neg Bool.false_ne_true]
  unfold getAttrByItsOwn hookBefore
  refine wpAny_bind ?_
  rw [if_pos (show onTheHeap (.ref D) = true from rfl)]
  refine (looks_findIn (M := model prog w) X T.hk).at (wpAny_bind (wpAny_attempt (wpAny_holding ?_)))
  unfold callGetattribute
  rw [if_neg (show ¬ ((false && onTheHeap (Value.builtin "BaseException.__getattribute__")) = true) from Bool.false_ne_true)]
  unfold boundAndCalled
  rw [PySem.F.excAttr_ValueError.ga.bind (.ref x)]
  refine wpAny_bind (wpAny_pure ?_)
  show wpAny (model prog w) A (call (.builtin "BaseException.__getattribute__") [.ref x, .str "__class__" t]) _ _ _
  refine wpAny_call (codeAny_call_builtin PySem.F.excAttr_ValueError.ga.plain PySem.F.entry_bexc_ga (@check_slot (model prog w) _ _ ⟨hp, g, d, t + 1, os⟩ "BaseException.__getattribute__" "BaseException" "__getattribute__" (.ref x) [.str "__class__" t] [] _ (by decide +kernel) (by decide +kernel) sub (PySem.F.args_bexc_ga (.ref x) (.str "__class__" t)) ?_))
  unfold Builtin.«object.__getattribute__»
  refine wpAny_bind (wpAny_of_eq (a := ((Value.ref x : Value), [Value.str "__class__" t])) (by first | rfl | (simp only [slotArgs]; rfl)) ?_)
  refine wpAny_bind (wpAny_pure (wpAny_bind (ty.at (wpAny_bind ((looks_find (M := model prog w) X I hf).at ?_)))))
  refine wpAny_bind (m := holding [Value.builtin "object.__class__"] (call (.builtin "getset_descriptor.__get__") [.builtin "object.__class__", .ref x, .ref D])) (wpAny_holding (wpAny_call (class_get (s := ⟨hp, g, d, t + 1, os⟩) (ox := ox) (od := some od) X I T.hm (wpAny_pure ?_))))
  show wpAny _ _ (handedOut (.ref D)) _ _ _
  rw [handedOut_of (v := .ref D) rfl]
  first
    | exact wpAny_pure (wpAny_pure h)
    | exact wpAny_pure h
    | exact wpAny_pure (wpAny_bind (wpAny_pure (wpAny_pure h)))
theorem dl_kit_exc (T : L2.ExcC K D) : KitX K (.ref x) (.ref D) (fun h => ∃ od, InstAt h x ox D (some od)) where
  ty := fun _ _ _ ⟨_, I⟩ => I.type
  it := fun M h X _ => by
    obtain ⟨cd, hc, _⟩ := any_some T.hd
    unfold clsIn at hc
    split at hc
    · rename_i lk
      intro B R F z keep done
      unfold isType loadHead
      exact wpAny_bind (wpAny_loadPart (keep _ _ (X _ _ lk)) (wpAny_pure done))
    · cases hc
  ne := fun h tp dd its n sl X e => (handS_kitx_exc (x := x) (ox := ox) T.hg T.hk T.hs T.hd T.ha T.hn T.ht T.hm).ne h tp dd its n sl X e
  ca := fun X ⟨_, I⟩ k => dl_exc_class T X I k
end
end PySem.W

namespace Dl
open PySem PySem.Spec PyProof.Rows L2
section
variable {X : Cx} {G : Gh} {a C dd : Addr} {oe : Obj} {pn : List (Addr × Obj)} {pos p : Pos} {e : Expr} {es : List Expr} {tA : DA}
/-- isinstance(e, c) in a suite, e the caught error -/
def gIsE (a dd : Addr) (c : D) (z : Bool) : List D → Mu → DQ → Prop := fun ds μ Q => ds = [.ref a, c] ∧ (∃ fs, μ dd = some (.xd fs)) ∧ Q (.bl z) μ
theorem pd_isE {c : D} {u : Value} {z : Bool} (T : ExcC X.K C) (hz : Zc (.ref C) (some dd) oe) (hf : ∃ vs, oe.data = .fields vs) (hk : PySem.W.kitOne X.K (.ref C) u = some z) (hc : ∀ {μ : Mu} {H : Hp} {w : V}, Da X.K μ H w c → ClsV w u) (hm : X.mg "isinstance" = none)
    (ha : PDA (X.suite a ((a, oe) :: pn)) G (e :: es) tA) (hg : Gl (X.suite a ((a, oe) :: pn)) "isinstance" := by rfl) (he : starEach (e :: es) X.env = (false, eval e X.env) :: starEach es X.env := by rfl) (hpl : (backTo pos (starEach es X.env)).any (·.1) = false := by rfl) :
    PD (X.suite a ((a, oe) :: pn)) G (.Call (.Name "isinstance" p) (e :: es) [] pos) (dCB (gIsE a dd c z) tA) := by
  have call : CallR (X.suite a ((a, oe) :: pn)) (.builtin "isinstance") (rGL X.K (gIsE a dd c z)) := by
    rintro pins s σ H xs us Q I r ⟨ds, μ, Qd, jj, l, ⟨rfl, ⟨fs, e1⟩, q⟩, kk⟩
    obtain ⟨v, w, rfl, h1, h2⟩ := l.two'
    cases h1
    obtain ⟨u1, u2, rfl, r1, r2⟩ := vals2 r
    obtain rfl : u1 = Value.ref a := r1
    have eu := (hc h2).eq r2
    subst eu
    obtain ⟨hget, _⟩ := I.pin (a, oe) (List.mem_append_left _ List.mem_cons_self)
    obtain ⟨fv, ed, _⟩ := jj dd _ e1
    obtain ⟨mA, ns, _⟩ := (show ObjOk X.prog X.w H s.heap dd (.xd fv) from I.hok dd _ ed)
    obtain ⟨o2, _, _, e2, _⟩ := ns
    have J : ∃ od, PySem.W.InstAt s.heap a oe C (some od) := by
      obtain ⟨vs, hv⟩ := hf
      obtain ⟨c1, c2, c3, c4⟩ := oe
      obtain ⟨z1, z2⟩ := hz
      dsimp only at z1 z2 hv
      subst z1 z2 hv
      exact ⟨o2, hget, rfl, rfl, e2⟩
    exact PySem.W.kia_one (PySem.W.dl_kit_exc T) I.kIn J hk (fun z => nomatch z) fun tk => ⟨.bl z, H, I.tok tk, rfl, kk.now jj (.bl z) q⟩
  exact pd_b (X := X.suite a ((a, oe) :: pn)) call lf_rGL hm (by decide +kernel) ha hg (by decide) (by decide) he hpl
end
end Dl

/-! Dicts whose keys are tuples of ints, texts, None and such tuples, as things that change. -/
namespace Dl
open PySem PySem.Spec PyProof.Rows L2
/-! ### rows of keys and values -/
section
variable {κ α β : Type} [DecidableEq κ]
def lk : List (κ × α) → κ → Option α
  | [], _ => none
  | (n, a) :: r, k => if n = k then some a else lk r k
def pt : List (κ × α) → κ → α → List (κ × α)
  | [], k, d => [(k, d)]
  | (n, a) :: r, k, d => if n = k then (n, d) :: r else (n, a) :: pt r k d
def rm : List (κ × α) → κ → List (κ × α)
  | [], _ => []
  | (n, a) :: r, k => if n = k then rm r k else (n, a) :: rm r k
def pts (kvs : List (κ × α)) (more : List (κ × α)) : List (κ × α) := more.foldl (fun c kv => pt c kv.1 kv.2) kvs
theorem lk_pt : ∀ (r : List (κ × α)) (k n : κ) (d : α), lk (pt r k d) n = if k = n then some d else lk r n
  | [], k, n, d => by simp [pt, lk]
  | (m, a) :: r, k, n, d => by
    unfold pt
    by_cases h : m = k
    · subst h
      simp only [if_true, lk]
      split <;> rfl
    · simp only [h, if_false, lk, lk_pt r k n d]
      by_cases h2 : k = n
      · subst h2
        simp [h]
      · simp [h2]
theorem lk_rm : ∀ (r : List (κ × α)) (k n : κ), lk (rm r k) n = if k = n then none else lk r n
  | [], k, n => by simp [rm, lk]
  | (m, a) :: r, k, n => by
    unfold rm
    by_cases h : m = k
    · subst h
      simp only [if_true, lk, lk_rm r m n]
      split <;> rfl
    · simp only [h, if_false, lk, lk_rm r k n]
      by_cases h2 : k = n
      · subst h2
        simp [h]
      · simp [h2]
theorem keys_pt : ∀ (r : List (κ × α)) (k : κ) (d : α), (pt r k d).map (·.1) = if k ∈ r.map (·.1) then r.map (·.1) else r.map (·.1) ++ [k]
  | [], k, d => by simp [pt]
  | (m, a) :: r, k, d => by
    unfold pt
    by_cases h : m = k
    · subst h
      simp
    · simp only [h, if_false, List.map_cons, keys_pt r k d, List.mem_cons, Ne.symm h, false_or]
      split <;> simp
theorem len_pt (r : List (κ × α)) (k : κ) (d : α) : (pt r k d).length ≤ r.length + 1 := by
  have := congrArg List.length (keys_pt r k d)
  rw [List.length_map] at this
  rw [this]
  split <;> simp
theorem lk_none_iff : ∀ {r : List (κ × α)} {k : κ}, lk r k = none ↔ k ∉ r.map (·.1)
  | [], k => by simp [lk]
  | (m, a) :: r, k => by
    unfold lk
    by_cases h : m = k
    · simp [h]
    · simp only [h, if_false, List.map_cons, List.mem_cons, Ne.symm h, false_or]
      exact lk_none_iff
theorem lk_some_of_mem {r : List (κ × α)} {k : κ} (h : k ∈ r.map (·.1)) : ∃ d, lk r k = some d := by
  cases e : lk r k with
  | none => exact absurd h (lk_none_iff.mp e)
  | some d => exact ⟨d, rfl⟩
theorem mem_of_lk : ∀ {r : List (κ × α)} {k : κ} {d : α}, lk r k = some d → (k, d) ∈ r
  | [], k, d, h => by simp [lk] at h
  | (m, a) :: r, k, d, h => by
    unfold lk at h
    by_cases e : m = k
    · rw [if_pos e] at h
      cases h
      rw [e]
      exact List.mem_cons_self
    · rw [if_neg e] at h
      exact List.mem_cons_of_mem _ (mem_of_lk h)
theorem rm_none : ∀ {r : List (κ × α)} {k : κ}, lk r k = none → rm r k = r
  | [], _, _ => rfl
  | (m, a) :: r, k, h => by
    unfold lk at h
    unfold rm
    by_cases e : m = k
    · rw [if_pos e] at h; cases h
    · rw [if_neg e] at h ⊢
      rw [rm_none h]
theorem nodup_pt {r : List (κ × α)} {k : κ} {d : α} (h : (r.map (·.1)).Nodup) : ((pt r k d).map (·.1)).Nodup := by
  rw [keys_pt]
  split
  · exact h
  · rename_i n
    refine List.nodup_append.mpr ⟨h, by simp, ?_⟩
    intro a ha b hb e
    simp at hb
    subst hb
    subst e
    exact n ha
theorem keys_rm : ∀ (r : List (κ × α)) (k : κ), (rm r k).map (·.1) = (r.map (·.1)).filter fun n => decide (n ≠ k)
  | [], k => rfl
  | (m, a) :: r, k => by
    unfold rm
    by_cases h : m = k
    · simp [h, keys_rm r k]
    · simp [h, keys_rm r k]
end
mutual
theorem dn_inj : ∀ {a b : NestedKey}, dn a = dn b → a = b
  | .none, .none, _ => rfl
  | .num i, .num j, h => by simp only [dn, D.int.injEq] at h; rw [h]
  | .text x, .text y, h => by simp only [dn, D.str.injEq] at h; rw [h]
  | .tup ks, .tup ls, h => by simp only [dn, D.tup.injEq] at h; rw [dns_inj h]
  | .none, .num _, h => by simp [dn] at h
  | .none, .text _, h => by simp [dn] at h
  | .none, .tup _, h => by simp [dn] at h
  | .num _, .none, h => by simp [dn] at h
  | .num _, .text _, h => by simp [dn] at h
  | .num _, .tup _, h => by simp [dn] at h
  | .text _, .none, h => by simp [dn] at h
  | .text _, .num _, h => by simp [dn] at h
  | .text _, .tup _, h => by simp [dn] at h
  | .tup _, .none, h => by simp [dn] at h
  | .tup _, .num _, h => by simp [dn] at h
  | .tup _, .text _, h => by simp [dn] at h
theorem dns_inj : ∀ {a b : List NestedKey}, dns a = dns b → a = b
  | [], [], _ => rfl
  | x :: xs, y :: ys, h => by
    simp only [dns, List.cons.injEq] at h
    rw [dn_inj h.1, dns_inj h.2]
  | [], _ :: _, h => by simp [dns] at h
  | _ :: _, [], h => by simp [dns] at h
end
/-- fit for a key: a tuple, not too deep -/
def nkey (k : NestedKey) : Prop := k.depth ≤ 8 ∧ ∃ ks, k = .tup ks
section
variable {X : Cx} {pins : List (Addr × Obj)} {σ : L2.St} {H : Hp} {s : Shared} {μ : Mu} {G : Gh}
mutual
theorem Da.nested (I : Inv X pins σ H s) : ∀ (k : NestedKey) {v : V} {u : Value}, Da X.K μ H v (dn k) → RelV v u → NestedIs s.heap k u
  | .none, v, u, h, r => by
    rw [dn] at h
    cases h
    obtain rfl : u = Value.none := r
    exact .none
  | .num i, v, u, h, r => by
    rw [dn] at h
    cases h
    obtain ⟨t, rfl⟩ := r
    exact .int _ _
  | .text x, v, u, h, r => by
    rw [dn] at h
    cases h
    obtain ⟨t, rfl⟩ := r
    exact .text _ _
  | .tup ks, v, u, h, r => by
    rw [dn] at h
    cases h with
    | tup e l =>
      rename_i a vs
      obtain rfl : u = Value.ref a := r
      rcases e with ⟨_, ob, rd, _⟩ | ⟨o, its, n, e1, e2, _, e3, _, rv⟩
      · obtain ⟨_, _, its, rv, o, e1, e2, n, e3⟩ := I.hok _ _ rd
        exact .tup e1 e2 e3 (by simpa using DaL.nested I ks l rv)
      · exact .tup (I.kIn _ _ e1) e2 e3 (DaL.nested I ks l rv)
theorem DaL.nested (I : Inv X pins σ H s) : ∀ (ks : List NestedKey) {vs : List V} {us : List Value}, DaL X.K μ H vs (dns ks) → Vals vs us → NestedAll s.heap ks us
  | [], vs, us, h, r => by
    rw [dns] at h
    cases h
    cases r
    exact .nil
  | k :: ks, vs, us, h, r => by
    rw [dns] at h
    cases h with
    | cons h l =>
      cases r with
      | cons r t => exact .cons (Da.nested I k h r) (DaL.nested I ks l t)
end
theorem Da.refOf {K : PySem.W.Frag} {v : V} {k : NestedKey} (h : Da K μ H v (dn k)) (n : nkey k) : ∃ b, v = .ref b := by
  obtain ⟨_, ks, rfl⟩ := n
  rw [dn] at h
  cases h
  exact ⟨_, rfl⟩
theorem Da.isN (I : Inv X pins σ H s) {k : NestedKey} {b : Addr} (h : Da X.K μ H (.ref b) (dn k)) (n : k.depth ≤ 8) : (nestedKind X.prog X.w).is s.heap k b := ⟨h.nested I k rfl, n⟩
theorem DaN.all (I : Inv X pins σ H s) : ∀ {xs : List (NestedKey × Addr × Value)} {kvs : List (NestedKey × D)}, DaN X.K μ H xs kvs → ∀ x ∈ xs, (nestedKind X.prog X.w).is s.heap x.1 x.2.1
  | _, _, .nil, x, hx => nomatch hx
  | _, _, .cons h z r h2 l, x, hx => by
    rcases List.mem_cons.mp hx with rfl | hx
    · exact h.isN I z
    · exact DaN.all I l x hx
theorem DaN.length {K : PySem.W.Frag} : ∀ {xs : List (NestedKey × Addr × Value)} {kvs : List (NestedKey × D)}, DaN K μ H xs kvs → xs.length = kvs.length
  | _, _, .nil => rfl
  | _, _, .cons _ _ _ _ l => congrArg (· + 1) l.length
theorem DaN.atk {K : PySem.W.Frag} (k : NestedKey) : ∀ {xs : List (NestedKey × Addr × Value)} {kvs : List (NestedKey × D)}, DaN K μ H xs kvs → (∃ b u v d, atKey xs k = some (b, u) ∧ lk kvs k = some d ∧ RelV v u ∧ Da K μ H v d) ∨ (atKey xs k = none ∧ lk kvs k = none)
  | _, _, .nil => .inr ⟨rfl, rfl⟩
  | _, _, .cons (k := n) (b := b) h z r h2 l => by
    by_cases e : n = k
    · refine .inl ⟨b, _, _, _, ?_, ?_, r, h2⟩
      · unfold atKey; simp [e]
      · simp [lk, e]
    · have := DaN.atk k l
      simpa [atKey, lk, e] using this
theorem DaN.append {K : PySem.W.Frag} : ∀ {a b : List (NestedKey × Addr × Value)} {c e : List (NestedKey × D)}, DaN K μ H a c → DaN K μ H b e → DaN K μ H (a ++ b) (c ++ e)
  | _, _, _, _, .nil, s => s
  | _, _, _, _, .cons h z r h2 l, s => .cons h z r h2 (l.append s)
theorem atKey_cons {x : NestedKey × Addr × Value} {xs : List (NestedKey × Addr × Value)} {k : NestedKey} : atKey (x :: xs) k = if x.1 = k then some x.2 else atKey xs k := by
  unfold atKey
  by_cases e : x.1 = k <;> simp [e]
theorem storedH_cons {x : NestedKey × Addr × Value} {xs : List (NestedKey × Addr × Value)} {k : NestedKey} {a : Addr} {u : Value} (nd : x.1 ∉ xs.map (·.1)) : storedH (x :: xs) k a u = if x.1 = k then (x.1, x.2.1, u) :: xs else x :: storedH xs k a u := by
  unfold storedH
  rw [atKey_cons]
  by_cases e : x.1 = k
  · rw [if_pos e, if_pos e]
    simp only [Option.isSome_some, if_true, List.map_cons, putAt, if_pos e]
    rw [map_putAt_of_not_mem xs k u (by rw [← e]; exact nd)]
  · rw [if_neg e, if_neg e]
    split
    · simp only [List.map_cons, putAt, if_neg e]
    · rfl
theorem DaN.put {K : PySem.W.Frag} {k : NestedKey} {b : Addr} {u : Value} {v : V} {d : D} (hk : Da K μ H (.ref b) (dn k)) (z : k.depth ≤ 8) (r : RelV v u) (h : Da K μ H v d) :
    ∀ {xs : List (NestedKey × Addr × Value)} {kvs : List (NestedKey × D)}, DaN K μ H xs kvs → (xs.map (·.1)).Nodup → DaN K μ H (storedH xs k b u) (pt kvs k d)
  | _, _, .nil, _ => by
    show DaN K μ H [(k, b, u)] [(k, d)]
    exact .cons hk z r h .nil
  | _, _, .cons (k := n) h1 z1 r1 h2 l, nd => by
    have nd' := List.nodup_cons.mp (by simpa only [List.map_cons] using nd)
    rw [storedH_cons nd'.1]
    unfold pt
    by_cases e : n = k
    · simp only [e, if_true]
      subst e
      exact .cons h1 z1 r h l
    · simp only [e, if_false]
      exact .cons h1 z1 r1 h2 (DaN.put hk z r h l nd'.2)
theorem DaN.out {K : PySem.W.Frag} (k : NestedKey) : ∀ {xs : List (NestedKey × Addr × Value)} {kvs : List (NestedKey × D)}, DaN K μ H xs kvs → DaN K μ H (withoutH xs k) (rm kvs k)
  | _, _, .nil => .nil
  | _, _, .cons (k := n) h z r h2 l => by
    have ih := DaN.out k l
    unfold withoutH at ih ⊢
    unfold rm
    by_cases e : n = k
    · simpa [List.filter_cons, e] using ih
    · simp only [e, if_false]
      rw [List.filter_cons, if_pos (by simpa using e)]
      exact .cons h z r h2 ih
/-- the dict as the library tells it -/
theorem ofH (I : Inv X pins σ H s) {a : Addr} {kvs : List (NestedKey × D)} {xs : List (NestedKey × Addr × Value)} (e : RawAt H X.w a xs) (l : DaN X.K μ H xs kvs) : s.heap.DictOfH (nestedKind X.prog X.w) a xs ∧ (a == sysModules) = false ∧ xs.length ≤ sizeLine := by
  obtain ⟨ep, e⟩ := e
  obtain ⟨⟨o, es, h1, h2, h3, h4, h5, h6, h7⟩, _, _⟩ := I.hok a _ e
  exact ⟨⟨o, es, ep, h1, h2, h3, h4, l.all I, h5⟩, h6, h7⟩
theorem rawOk {P : Program} {w : World} {h' : Heap} {a : Addr} {xs : List (NestedKey × Addr × Value)} (d : h'.DictOfH (nestedKind P w) a xs) (n : (a == sysModules) = false) (z : xs.length ≤ sizeLine) : ∃ ep, ∀ H', ObjOk P w H' h' a (.ext (RawN w a ep xs)) := by
  obtain ⟨o, es, ep, h1, h2, h3, h4, _, h5⟩ := d
  refine ⟨ep, fun H' => ⟨⟨o, es, h1, h2, h3, h4, h5, n, z⟩, ⟨o, h1⟩, ?_⟩⟩
  rintro g1 g2 ⟨o, es, h1, r⟩ k
  exact ⟨o, es, k _ h1, r⟩
theorem roomN {k : Nat} (hr : Room k X.A) : (nestedKind X.prog X.w).room X.A.in1 := by
  show X.A.units + 1 + 8 < cLine
  have := hr.units
  omega
theorem storedH_len (xs : List (NestedKey × Addr × Value)) (k : NestedKey) (b : Addr) (u : Value) : (storedH xs k b u).length ≤ xs.length + 1 := by
  unfold storedH
  split <;> simp
end
end Dl

namespace Dl
open PySem PySem.Spec PyProof.Rows L2
section
variable {X : Cx} {G : Gh} {a b e o value : Expr} {es : List Expr} {ta tb te to tv ty : DE} {tA : DA} {pos pos' p apos cpos : Pos} {k j : Nat}
/-- a dict with nested keys, one that changes or a value -/
def dkN (w : World) (μ : Mu) (x : D) (kvs : List (NestedKey × D)) : Prop := (∃ c, x = .ref c ∧ μ c = some (.dN w kvs)) ∨ x = .dN w kvs
theorem dkN_h {K : PySem.W.Frag} {μ : Mu} {H : Hp} {w : World} {v : V} {x : D} {kvs : List (NestedKey × D)} (j : J K μ H) (h : Da K μ H v x) (e : dkN w μ x kvs) : ∃ c xs, v = .ref c ∧ RawAt H w c xs ∧ DaN K μ H xs kvs := by
  rcases e with ⟨c, rfl, e⟩ | rfl
  · cases h
    obtain ⟨xs, e2, l⟩ := j c _ e
    exact ⟨c, xs, rfl, e2, l⟩
  · cases h with | dN n e2 l => exact ⟨_, _, rfl, e2, l⟩
/-! ### in, not in -/
def gNIn (w : World) (z : Bool) : G2 := fun y x μ Q => ∃ kvs k, dkN w μ x kvs ∧ y = dn k ∧ nkey k ∧ Q (.bl ((lk kvs k).isSome == z)) μ
theorem op_nin (hr : Room k X.A) : OpR X (compareOp .In) (rG X.K (gNIn X.w true)) := by
  rintro pins s σ H x y u w Q I rx ry ⟨dx, dy, μ, Qd, jj, hx, hy, ⟨kvs, n, e0, rfl, nk, q⟩, kt⟩
  obtain ⟨c, xs, rfl, e2, l⟩ := dkN_h jj hy e0
  obtain ⟨d1, d2, d3⟩ := ofH I e2 l
  obtain ⟨b, rfl⟩ := hx.refOf nk
  obtain rfl : u = Value.ref b := rx
  obtain rfl : w = Value.ref c := ry
  refine wpAny_in_heap (roomN hr) (hx.isN I nk.1) d2 d1 ⟨.bl _, H, I.tok _, rfl, ?_⟩
  have er : (atKey xs n).isSome = ((lk kvs n).isSome == true) := by
    rcases l.atk n with ⟨_, _, _, _, a1, a2, _⟩ | ⟨a1, a2⟩ <;> rw [a1, a2] <;> rfl
  rw [er]
  exact kt.now jj (.bl _) q
theorem op_nnin (hr : Room k X.A) : OpR X (compareOp .NotIn) (rG X.K (gNIn X.w false)) := by
  rintro pins s σ H x y u w Q I rx ry ⟨dx, dy, μ, Qd, jj, hx, hy, ⟨kvs, n, e0, rfl, nk, q⟩, kt⟩
  obtain ⟨c, xs, rfl, e2, l⟩ := dkN_h jj hy e0
  obtain ⟨d1, d2, d3⟩ := ofH I e2 l
  obtain ⟨b, rfl⟩ := hx.refOf nk
  obtain rfl : u = Value.ref b := rx
  obtain rfl : w = Value.ref c := ry
  refine notIn_keyed (roomN hr) (hx.isN I nk.1) d2 ⟨xs, d1, rfl⟩ ⟨.bl _, H, I.tok _, rfl, ?_⟩
  have er : (!(valueAt (pairsH xs) n).isSome) = ((lk kvs n).isSome == false) := by
    rw [valueAt_pairsH]
    rcases l.atk n with ⟨_, _, _, _, a1, a2, _⟩ | ⟨a1, a2⟩ <;> rw [a1, a2] <;> rfl
  rw [er]
  exact kt.now jj (.bl _) q
theorem pd_nin (hr : Room k X.A) (ha : PD X G a ta) (hb : PD X G b tb) (hm : behindInMarks .In b = false := by rfl) : PD X G (.Compare a [.In] [b] pos) (dOp (gNIn X.w true) ta tb) := pd_cmp (op_nin hr) lf_rG ha hb hm
theorem pd_nnin (hr : Room k X.A) (ha : PD X G a ta) (hb : PD X G b tb) (hm : behindInMarks .NotIn b = false := by rfl) : PD X G (.Compare a [.NotIn] [b] pos) (dOp (gNIn X.w false) ta tb) := pd_cmp (op_nnin hr) lf_rG ha hb hm
theorem pt_nin (hr : Room k X.A) (ha : PD X G a ta) (hb : PD X G b tb) (hm : behindInMarks .In b = false := by rfl) : PDT X G (.Compare a [.In] [b] pos) (dB (dOp (gNIn X.w true) ta tb)) := pt_c (op_nin hr) lf_rG ha hb hm
theorem pt_nnin (hr : Room k X.A) (ha : PD X G a ta) (hb : PD X G b tb) (hm : behindInMarks .NotIn b = false := by rfl) : PDT X G (.Compare a [.NotIn] [b] pos) (dB (dOp (gNIn X.w false) ta tb)) := pt_c (op_nnin hr) lf_rG ha hb hm
/-! ### d[k] -/
def gNIx (w : World) : G2 := fun x y μ Q => ∃ kvs k d, dkN w μ x kvs ∧ y = dn k ∧ nkey k ∧ lk kvs k = some d ∧ Q d μ
theorem ix_n (hr : Room k X.A) : IxR X (rG X.K (gNIx X.w)) := by
  rintro value slice pins s σ H x y u w Q I rx ry ⟨dx, dy, μ, Qd, jj, hx, hy, ⟨kvs, n, d, e0, rfl, nk, hv, q⟩, kt⟩ hs
  obtain ⟨c, xs, rfl, e2, l⟩ := dkN_h jj hx e0
  obtain ⟨d1, d2, d3⟩ := ofH I e2 l
  obtain ⟨b, rfl⟩ := hy.refOf nk
  obtain rfl : u = Value.ref c := rx
  obtain rfl : w = Value.ref b := ry
  rcases l.atk n with ⟨b', u', v', d', a1, a2, a3, a4⟩ | ⟨a1, a2⟩
  · rw [hv] at a2
    cases a2
    exact tail_any d1.typeIs F.slot_dict_getitem.lookup (wpAny_getItem_heap (roomN hr) (hy.isN I nk.1) d1 a1 ⟨v', H, I.tok _, a3, kt.now jj a4 q⟩) hs
  · rw [hv] at a2
    cases a2
theorem pd_nix (hr : Room k X.A) (ha : PD X G a ta) (hb : PD X G b tb) (hs : PlainIx b := by exact fun _ _ => rfl) : PD X G (.Subscript a b pos) (dOp (gNIx X.w) ta tb) := pd_ix (ix_n hr) lf_rG ha hb hs
/-! ### d[k] = v -/
def gNSet (w : World) : D → D → D → Mu → (Mu → Prop) → Prop := fun x y d μ Q => ∃ c kvs k, x = .ref c ∧ μ c = some (.dN w kvs) ∧ y = dn k ∧ nkey k ∧ kvs.length < sizeLine ∧ Q (mup μ c (.dN w (pt kvs k d)))
def rNSet (K : PySem.W.Frag) (w : World) : TSet := fun x y v H Q => ∃ dx dy d μ Qd, J K μ H ∧ Da K μ H x dx ∧ Da K μ H y dy ∧ Da K μ H v d ∧ gNSet w dx dy d μ Qd ∧ ∀ μ' H', Gr μ H μ' H' → J K μ' H' → Qd μ' → Q H'
theorem set_n (hr : Room k X.A) : PSet X (rNSet X.K X.w) := by
  rintro pins s σ H x y v ux uy u Q I rx ry rv ⟨dx, dy, d, μ, Qd, jj, hx, hy, hv, ⟨c, kvs, n, rfl, e1, rfl, nk, z, q⟩, kt⟩
  cases hx
  obtain ⟨xs, e2, l⟩ := jj c _ e1
  obtain ⟨d1, d2, d3⟩ := ofH I e2 l
  obtain ⟨b, rfl⟩ := hy.refOf nk
  obtain rfl : ux = Value.ref c := rx
  obtain rfl : uy = Value.ref b := ry
  refine wpAny_setItem_heap (hsz := d3) (roomN hr) (hy.isN I nk.1) d1 fun h' dd hs => ?_
  have he : ∃ q, h'.get? c = some q := let ⟨q, _, _, hq, _⟩ := dd; ⟨q, hq⟩
  have nd : (xs.map (·.1)).Nodup := d1.nodup
  have hl : (storedH xs n b u).length ≤ sizeLine := by have := storedH_len xs n b u; rw [l.length] at this; omega
  obtain ⟨ep, ok⟩ := rawOk dd d2 hl
  have gg : Gr μ H (mup μ c (.dN X.w (pt kvs n d))) (upd H c (.ext (RawN X.w c ep (storedH xs n b u)))) := Gr.turn e1
  exact ⟨_, d_write I (by obtain ⟨_, e2⟩ := e2; rw [e2]; exact True.intro) hs he (ok _), kt _ _ gg (jj.turn e1 ⟨_, ⟨_, upd_same⟩, (l.put hy nk.1 rv hv nd).grow gg⟩) q⟩
def dNSub (w : World) (to ti : DE) : DG := fun d ρ μ Q => to ρ μ fun x μ1 => ti ρ μ1 fun i μ2 => gNSet w x i d μ2 fun μ3 => Q ρ μ3
theorem dg_nsub {ti : DE} (hr : Room k X.A) (ho : PD X G o to) (hi : PD X G a ti) (ha : ∀ v, assign (.Subscript o a pos) X.env v = (do
      let ov ← holding [v] (eval o X.env)
      let iv ← holding [v, ov] (eval a X.env)
      standAt pos
      holding [v, ov, iv] (setItem ov iv v)
      release [v, ov, iv] []) := by intro _; rfl) : PDG X G (.Subscript o a pos) (dNSub X.w to ti) := by
  obtain ⟨eo, po, fo⟩ := ho.ex
  obtain ⟨ei, pi, fi⟩ := hi.ex
  refine ⟨_, pg_sub po pi (set_n hr) ha, @fun v d σ H ρ μ Q Qd o h t k => ?_⟩
  refine fo o t fun x dx H1 μ1 g1 j1 h1 t1 => ?_
  have o1 := o.grow g1 j1
  refine fi o1 t1 fun y dy H2 μ2 g2 j2 h2 t2 => ?_
  have o2 := o1.grow g2 j2
  exact ⟨dx, dy, d, μ2, fun μ3 => Qd ρ μ3, j2, h1.grow g2, h2, (h.grow g1).grow g2, t2, fun μ' H' g' j' q' => k _ _ _ _ ((g1.trans g2).trans g') (o2.grow g' j') q'⟩
/-! ### {} -/
def dNNew (w : World) : DE := fun _ μ Q => ∀ p, μ p = none → Q (.ref p) (mup μ p (.dN w []))
theorem pd_nnew : PD X G (.Dict [] [] pos) (dNNew X.w) := by
  refine PD.of fun pins s σ H ρ μ Q Qd I o t kk => ?_
  have np := I.hok.fresh (Nat.le_refl s.heap.objs.size)
  obtain ⟨ep, ok⟩ := rawOk (P := X.prog) (w := X.w) (Heap.DictOfH.new s.heap) (by
    have := dk_empty (P := X.prog) (w := X.w) (H := H) s.heap I.big
    exact this.2.1) (Nat.zero_le _)
  refine wpAny_Dict_empty ⟨.ref s.heap.objs.size, _, I.laid (a := s.heap.objs.size) (o := .ext (RawN X.w s.heap.objs.size ep [])) (t' := s.toks) (fun _ _ q => Heap.get?_push_of_some _ q) (Nat.le_refl _) (ok _), rfl, ?_⟩
  · exact kk _ _ _ _ (Gr.born np) (o.j.born (u := .dN X.w []) np ⟨_, ⟨_, upd_same⟩, .nil⟩) (.ref _) (t _ (o.j.free np))
/-! ### methods of built-in types -/
def rGM (K : PySem.W.Frag) (g : D → List D → Mu → DQ → Prop) : V → List V → Hp → VK → Prop := fun x xs H Q => ∃ dx ds μ Qd, J K μ H ∧ Da K μ H x dx ∧ DaL K μ H xs ds ∧ g dx ds μ Qd ∧ Kt K μ H Q Qd
def dBM (C : D → Mu → Prop) (g : D → List D → Mu → DQ → Prop) (to : DE) (t : DA) : DE := fun ρ μ Q => to ρ μ fun x μ1 => C x μ1 ∧ t ρ μ1 fun ds μ2 => g x ds μ2 Q
/-- what has the type T, by data -/
def TyIs (X : Cx) (T : String) (C : D → Mu → Prop) : Prop := ∀ (pins : List (Addr × Obj)) (s : Shared) (σ : L2.St) (H : Hp) (μ : Mu) (v : V) (u : Value) (d : D), Inv X pins σ H s → J X.K μ H → Da X.K μ H v d → RelV v u → C d μ → s.TypeIs u T ∧ ∀ a, u = .ref a → ∃ ob, s.heap.get? a = some ob ∧ ob.dict = none
theorem pd_bm {T id : String} {name : Str} {C : D → Mu → Prop} {g : D → List D → Mu → DQ → Prop} (pa : PlainAttrs T) (slot : Slot T name id) (hty : typeOf (.builtin id) = pure (.type "method_descriptor")) (hT : TyIs X T C) (hm : MtR X id (rGM X.K g)) (ho : PD X G o to) (ha : PDA X G (e :: es) tA)
    (hbase : attributeBase o name X.env (eval o X.env) = eval o X.env := by rfl)
    (hfew : ((backTo cpos (starEach (e :: es) X.env)).all (fun x => !x.1) && (backToKw cpos (keywordEach [] X.env)).all (fun x => x.1.isSome)
      && decide ((e :: es).length + ([] : List Keyword).length + (if ([] : List Keyword).isEmpty then 0 else 1) < 30)) = true := by rfl)
    (hline : (apos.endLine == cpos.line) = true := by rfl) (hs : starEach (e :: es) X.env = (false, eval e X.env) :: starEach es X.env := by rfl) (hplain : (backTo cpos (starEach es X.env)).any (·.1) = false := by rfl) :
    PD X G (.Call (.Attribute o name apos) (e :: es) [] cpos) (dBM C g to tA) := by
  refine PD.of fun pins s σ H ρ μ Q Qd I oo t kk => ?_
  obtain ⟨ea, pA, fA⟩ := ha.ex
  refine wpAny_Call_method_late hbase hfew hline rfl (thn (ho.run I oo t) fun v s1 ⟨x, H1, I1, r1, dx, μ1, g1, j1, hx, cx, q1⟩ => ?_)
  obtain ⟨h1, h2⟩ := hT _ _ _ _ _ _ _ _ I1 j1 hx r1 cx
  refine ⟨T, id, pa, slot, hty, h1, h2, ?_⟩
  have hA := pA.run cpos pins s1 σ H1 _ I1 (fA (oo.grow g1 j1) q1 ktKDL)
  rw [hs] at hA ⊢
  refine Calls.callWith_builtin (by show (false || (backTo cpos (starEach es X.env)).any (·.1)) = false; rw [hplain] <;> rfl) (Calls.evalArgs_plain ?_)
  exact thn hA fun us s2 ⟨vs, H2, I2, r2, ds, μ2, g2, j2, l2, q2⟩ => hm pins s2 σ H2 x vs v us Q I2 r1 r2 ⟨dx, ds, μ2, Qd, j2, hx.grow g2, l2, q2, kk.after (g1.trans g2)⟩
def isN (w : World) : D → Mu → Prop := fun x μ => ∃ kvs, dkN w μ x kvs
theorem ty_n : TyIs X "dict" (isN X.w) := by
  rintro pins s σ H μ v u d I jj h r ⟨kvs, e0⟩
  obtain ⟨c, xs, rfl, e2, l⟩ := dkN_h jj h e0
  obtain rfl : u = Value.ref c := r
  obtain ⟨d1, d2, d3⟩ := ofH I e2 l
  refine ⟨d1.typeIs, fun a ea => ?_⟩
  cases ea
  obtain ⟨ob, _, _, h1, h2, _⟩ := d1
  exact ⟨ob, h1, h2.2.1⟩
theorem vals2 {xs : List V} {us : List Value} {d e : D} {K : PySem.W.Frag} {μ : Mu} {H : Hp} (l : DaL K μ H xs [d, e]) (r : Vals xs us) : ∃ v w u x, xs = [v, w] ∧ us = [u, x] ∧ Da K μ H v d ∧ Da K μ H w e ∧ RelV v u ∧ RelV w x := by
  obtain ⟨v, w, rfl, h1, h2⟩ := l.two
  obtain ⟨u, x, rfl, r1, r2⟩ := L2.Vals.two r
  exact ⟨v, w, u, x, rfl, rfl, h1, h2, r1, r2⟩
/-- d.get(k, x) -/
def gNGet (w : World) : D → List D → Mu → DQ → Prop := fun x ds μ Q => ∃ kvs k y, dkN w μ x kvs ∧ ds = [dn k, y] ∧ nkey k ∧ Q ((lk kvs k).getD y) μ
theorem mt_nget (hr : Room k X.A) : MtR X "dict.get" (rGM X.K (gNGet X.w)) := by
  rintro pins s σ H x xs v us Q I rx rs ⟨dx, ds, μ, Qd, jj, hx, l, ⟨kvs, n, y, e0, rfl, nk, q⟩, kt⟩
  obtain ⟨c, xs', rfl, e2, l'⟩ := dkN_h jj hx e0
  obtain ⟨d1, d2, d3⟩ := ofH I e2 l'
  obtain ⟨v1, v2, u1, u2, rfl, rfl, h1, h2, r1, r2⟩ := vals2 l rs
  obtain ⟨b, rfl⟩ := h1.refOf nk
  obtain rfl : v = Value.ref c := rx
  obtain rfl : u1 = Value.ref b := r1
  refine getOr_keyed (roomN hr) (h1.isN I nk.1) d2 ⟨xs', d1, rfl⟩ ?_
  rw [valueAt_pairsH]
  rcases l'.atk n with ⟨b', u', v', d', a1, a2, a3, a4⟩ | ⟨a1, a2⟩
  · rw [a1]
    rw [a2] at q
    exact ⟨v', H, I.tok _, a3, kt.now jj a4 q⟩
  · rw [a1]
    rw [a2] at q
    exact ⟨v2, H, I.tok _, r2, kt.now jj h2 q⟩
theorem pd_nget (hr : Room k X.A) (ho : PD X G o to) (ha : PDA X G (e :: es) tA) (hbase : attributeBase o "get" X.env (eval o X.env) = eval o X.env := by rfl)
    (hfew : ((backTo cpos (starEach (e :: es) X.env)).all (fun x => !x.1) && (backToKw cpos (keywordEach [] X.env)).all (fun x => x.1.isSome)
      && decide ((e :: es).length + ([] : List Keyword).length + (if ([] : List Keyword).isEmpty then 0 else 1) < 30)) = true := by rfl)
    (hline : (apos.endLine == cpos.line) = true := by rfl) (hs : starEach (e :: es) X.env = (false, eval e X.env) :: starEach es X.env := by rfl) (hplain : (backTo cpos (starEach es X.env)).any (·.1) = false := by rfl) :
    PD X G (.Call (.Attribute o "get" apos) (e :: es) [] cpos) (dBM (isN X.w) (gNGet X.w) to tA) := pd_bm PySem.F.plainAttrs_dict PySem.F.slot_dict_get PySem.F.type_dict_get ty_n (mt_nget hr) ho ha hbase hfew hline hs hplain
/-- d.pop(k, x) -/
def gNPop (w : World) : D → List D → Mu → DQ → Prop := fun x ds μ Q => ∃ c kvs k y, x = .ref c ∧ μ c = some (.dN w kvs) ∧ ds = [dn k, y] ∧ nkey k ∧ Q ((lk kvs k).getD y) (mup μ c (.dN w (rm kvs k)))
theorem mup_self {μ : Mu} {c : Addr} {o : Ob} (h : μ c = some o) : mup μ c o = μ := by
  funext b
  unfold mup
  split
  · rename_i e; rw [e, h]
  · rfl
theorem mt_npop (hr : Room k X.A) : MtR X "dict.pop" (rGM X.K (gNPop X.w)) := by
  rintro pins s σ H x xs v us Q I rx rs ⟨dx, ds, μ, Qd, jj, hx, l, ⟨c, kvs, n, y, rfl, e1, rfl, nk, q⟩, kt⟩
  cases hx
  obtain ⟨xs', e2, l'⟩ := jj c _ e1
  obtain ⟨d1, d2, d3⟩ := ofH I e2 l'
  obtain ⟨v1, v2, u1, u2, rfl, rfl, h1, h2, r1, r2⟩ := vals2 l rs
  obtain ⟨b, rfl⟩ := h1.refOf nk
  obtain rfl : v = Value.ref c := rx
  obtain rfl : u1 = Value.ref b := r1
  rcases l'.atk n with ⟨b', u', v', d', a1, a2, a3, a4⟩ | ⟨a1, a2⟩
  · rw [a2] at q
    refine call_pop_heap (hsz := d3) (more := [u2]) (.inr ⟨_, rfl⟩) (F.args_dict_pop_3 _ _ _) (roomN hr) (h1.isN I nk.1) d2 d1 a1 fun h' dd hs => ?_
    have he : ∃ q, h'.get? c = some q := let ⟨q, _, _, hq, _⟩ := dd; ⟨q, hq⟩
    have hl : (withoutH xs' n).length ≤ sizeLine := Nat.le_trans (by unfold withoutH; exact List.length_filter_le _ _) d3
    obtain ⟨ep, ok⟩ := rawOk dd d2 hl
    have gg : Gr μ H (mup μ c (.dN X.w (rm kvs n))) (upd H c (.ext (RawN X.w c ep (withoutH xs' n)))) := Gr.turn e1
    exact ⟨v', _, d_write I (by obtain ⟨_, e2⟩ := e2; rw [e2]; exact True.intro) hs he (ok _), a3, kt _ _ _ _ gg (jj.turn e1 ⟨_, ⟨_, upd_same⟩, (l'.out n).grow gg⟩) (a4.grow gg) q⟩
  · rw [a2, rm_none a2, mup_self e1] at q
    exact call_pop_default_heap (hsz := d3) (roomN hr) (h1.isN I nk.1) d2 d1 a1 fun tk => ⟨v2, H, I.tok _, r2, kt.now jj h2 q⟩
theorem pd_npop (hr : Room k X.A) (ho : PD X G o to) (ha : PDA X G (e :: es) tA) (hbase : attributeBase o "pop" X.env (eval o X.env) = eval o X.env := by rfl)
    (hfew : ((backTo cpos (starEach (e :: es) X.env)).all (fun x => !x.1) && (backToKw cpos (keywordEach [] X.env)).all (fun x => x.1.isSome)
      && decide ((e :: es).length + ([] : List Keyword).length + (if ([] : List Keyword).isEmpty then 0 else 1) < 30)) = true := by rfl)
    (hline : (apos.endLine == cpos.line) = true := by rfl) (hs : starEach (e :: es) X.env = (false, eval e X.env) :: starEach es X.env := by rfl) (hplain : (backTo cpos (starEach es X.env)).any (·.1) = false := by rfl) :
    PD X G (.Call (.Attribute o "pop" apos) (e :: es) [] cpos) (dBM (isN X.w) (gNPop X.w) to tA) := pd_bm PySem.F.plainAttrs_dict PySem.F.slot_dict_pop PySem.F.type_dict_pop ty_n (mt_npop hr) ho ha hbase hfew hline hs hplain
/-- len(d) -/
def gNLen (w : World) : List D → Mu → DQ → Prop := fun ds μ Q => ∃ x kvs, ds = [x] ∧ dkN w μ x kvs ∧ Q (.int kvs.length) μ
theorem call_nlen : CallR X (.builtin "len") (rGL X.K (gNLen X.w)) := by
  rintro pins s σ H xs us Q I r ⟨ds, μ, Qd, jj, l, ⟨x, kvs, rfl, e0, q⟩, kt⟩
  obtain ⟨v, rfl, hv⟩ := l.one
  obtain ⟨u, rfl, rx⟩ := vals1 r
  obtain ⟨c, xs', rfl, e2, l'⟩ := dkN_h jj hv e0
  obtain rfl : u = Value.ref c := rx
  obtain ⟨d1, d2, d3⟩ := ofH I e2 l'
  have hz : (pairsH xs').length = kvs.length := by rw [pairsH_length, l'.length]
  have hs : sizeLine = 16777216 := sizeLine_eq
  refine call_len_slot (n := (pairsH xs').length) d1.typeIs F.slot_dict_len (fun Q' hq => len_keyed d2 ⟨xs', d1, rfl⟩ hq) (by omega) (by rw [pairsH_length]; omega) ⟨.int kvs.length, H, I.tok _, ⟨_, by rw [hz]⟩, kt.now jj (.int _) q⟩
theorem pd_nlen (hm : X.mg "len" = none) (ha : PD X G a ta) (hg : Gl X "len" := by rfl) (hs : starEach [a] X.env = (false, eval a X.env) :: starEach [] X.env := by rfl) : PD X G (.Call (.Name "len" p) [a] [] pos) (dCB (gNLen X.w) (dCons ta dNil)) :=
  pd_b call_nlen lf_rGL hm boot_len (pda_cons ha pda_nil hs) hg (by decide) (by decide) hs
end
end Dl

/-! Dicts with nested keys, walked; made of pairs; sorted. -/
namespace Dl
open PySem PySem.Spec PyProof.Rows L2
/-! ### a dict is locked while it is walked -/
/-- the keys of the locked dict -/
def ItN (w : World) (d : Addr) (od : Obj) (n : Nat) : It :=
  ⟨fun i H => (∃ ep xs, H d = some (.frz od (.ext (RawN w d ep xs))) ∧ xs.length = n) ∧ i < n, fun i H x H' => H' = H ∧ ∃ es ep en b, od.data = .dict es ep ∧ es[i]? = some en ∧ en.key = .ref b ∧ x = .ref b, fun i H => (∃ ep xs, H d = some (.frz od (.ext (RawN w d ep xs))) ∧ xs.length = n) ∧ n ≤ i⟩
section
variable {X : Cx} {pins : List (Addr × Obj)} {σ : L2.St} {H : Hp} {s : Shared} {d : Addr} {od : Obj}
theorem frzN {w : World} {ep0 : Nat} {xs : List (NestedKey × Addr × Value)} (I : Inv X pins σ H s) (h : H d = some (.frz od (.ext (RawN w d ep0 xs)))) :
    (d == sysModules) = false ∧ s.heap.get? d = some od ∧ od.ExactDict ∧ ∃ (es : Array DictEntry), od.data = .dict es ep0 ∧ es.size = xs.length ∧ es.toList = xs.map (fun x => (⟨x.1.hash w, .ref x.2.1, x.2.2⟩ : DictEntry)) := by
  obtain ⟨hd, ⟨o, es, h1, h2, h3, h4, h5, h6, h7⟩, _⟩ := I.hok d _ h
  rw [hd] at h1
  cases h1
  refine ⟨h6, hd, h2, es, h3, ?_, h4⟩
  have := congrArg List.length h4
  rw [Array.length_toList, List.length_map] at this
  exact this
theorem turn_N {P : Program} {w : World} {K : PySem.W.Frag} {tg : Expr} {es : Array DictEntry} {ep n : Nat} (it : Addr) (hod : od.data = .dict es ep) : Turn P w K tg (ItN w d od n) [it] it (fun i h => h.IsKeyIter it d i n ep) where
  mem := by simp
  obj := fun i h st b hb => by
    have e : b = it := by simpa using hb
    subst e
    obtain ⟨oi, e, c, dd⟩ := st
    exact ⟨oi, e, fun v z => by rw [dd] at z; cases z⟩
  keep := fun i h h' st k => st.at fun oi e => k it (by simp) oi e
  item := by
    intro X hP hw hK hc i pins s σ H E I hf st hg
    subst hP hw hK
    obtain ⟨⟨epq, xs, hd, hn⟩, hi⟩ := hg
    obtain ⟨f0, f1, f2, f3, f4, f5⟩ := hf it (by simp)
    obtain ⟨hs, hgd, hx, es', hdt, hsz, hel⟩ := frzN I hd
    obtain ⟨rfl, rfl⟩ := dict_ep hod hdt
    obtain ⟨y, hy⟩ : ∃ y, xs[i]? = some y := ⟨xs[i], List.getElem?_eq_getElem (by omega)⟩
    have hen : es'[i]? = some ⟨y.1.hash X.w, .ref y.2.1, y.2.2⟩ := by rw [← Array.getElem?_toList, hel, List.getElem?_map, hy]; rfl
    refine next_key_item st hgd hdt (hsz.trans hn) hen fun h' st' sb => ?_
    have I1 : Inv X pins σ H { s with heap := h' } := I.turned (t' := s.toks) (fun b ob hb e => (sb.2 b hb).trans e) f0 f1 f3 f4 f5
    obtain ⟨oi, e, c, dd⟩ := id st'
    exact ⟨_, rfl, go_of (s := { s with heap := h' }) e c dd (by decide) ⟨.ref y.2.1, H, I1, rfl, ⟨rfl, _, _, _, _, hod, hen, rfl, rfl⟩, st', fun b hb => (hf b hb).1⟩⟩
  done := by
    intro X hP hw hK hc i pins s σ H E I hf st hg
    subst hP hw hK
    obtain ⟨⟨epq, xs, hd, hn⟩, hi⟩ := hg
    obtain ⟨f0, f1, f2, f3, f4, f5⟩ := hf it (by simp)
    obtain ⟨hs, hgd, hx, es', hdt, hsz, hel⟩ := frzN I hd
    obtain ⟨rfl, rfl⟩ := dict_ep hod hdt
    exact next_key_end (I.ok.hd hc) st hgd hdt (hsz.trans hn) hi fun h' eb => ⟨rfl, I.turned (t' := s.toks) (fun b ob hb e => eb b ob hb e) f0 f1 f3 f4 f5⟩
  self := fun A i s Q E st h => by
    refine wpAny_pyIter_slot st.typeIs F.slot_dict_keyiterator_iter (wpAny_call_entry F.slot_dict_keyiterator_iter st.typeIs F.entry_dict_keyiterator_iter ?_ (F.args_dict_keyiterator_iter_1 _))
    show wpAny _ _ (ret (.ref it)) _ _ s
    exact wpAny_pure ⟨_, rfl, "dict_keyiterator", _, st.typeIs, F.slot_dict_keyiterator_next.lookup, h⟩
theorem DaN.get {K : PySem.W.Frag} {μ : Mu} : ∀ {xs : List (NestedKey × Addr × Value)} {kvs : List (NestedKey × D)} {i : Nat} {y : NestedKey × Addr × Value}, DaN K μ H xs kvs → xs[i]? = some y → ∃ d, kvs[i]? = some (y.1, d) ∧ Da K μ H (.ref y.2.1) (dn y.1)
  | _, _, _, _, .nil, e => by simp at e
  | _, _, 0, _, .cons h _ _ _ _, e => by
    simp only [List.getElem?_cons_zero, Option.some.injEq] at e
    subst e
    exact ⟨_, rfl, h⟩
  | _, _, i + 1, _, .cons _ _ _ _ l, e => by
    simp only [List.getElem?_cons_succ] at e ⊢
    exact DaN.get l e
/-- for x in d, the dict locked -/
def dNKeys (w : World) (te : DE) : DI := fun ρ μ R => te ρ μ fun x μ1 => ∃ c od kvs, x = .ref c ∧ μ1 c = some (.dL od w kvs) ∧ R (kvs.map fun kv => dn kv.1) (fun μ => μ c = some (.dL od w kvs)) μ1
theorem di_nkeys {G : Gh} {tg e : Expr} {te : DE} (he : PD X G e te) : PDI X G tg e (dNKeys X.w te) := by
  obtain ⟨ea, pa, fa⟩ := he.ex
  refine ⟨fun σ H R => ea σ H fun x H1 => ∃ c od ep xs n, x = .ref c ∧ H1 c = some (.frz od (.ext (RawN X.w c ep xs))) ∧ xs.length = n ∧ R (ItN X.w c od n) H1, ⟨fun pins s σ H R I h => ?_⟩, @fun σ H ρ μ R Rd o t k => fa o t fun x dx H1 μ1 g1 j1 h1 t1 => ?_⟩
  · refine thn (pa.run pins s σ H _ I h) fun u s1 ⟨x, H1, I1, rx, c, od, epq, xs, n, ex, hd, hn, q⟩ => ?_
    subst ex
    obtain rfl : u = Value.ref c := rx
    obtain ⟨hs, hgd, hx, es, hdt, hsz, hel⟩ := frzN I1 hd
    refine iter_keys hs hgd hx hdt (pi_one (tk := s1.toks) I1 _ (turn_N _ hdt) ⟨_, Heap.get?_push_size _ rfl, rfl, ?_⟩ q)
    rw [hsz, hn] <;> rfl
  · obtain ⟨c, od, kvs, rfl, e1, t1⟩ := t1
    cases h1
    obtain ⟨xs, es, ep, e2, ⟨e3, e4⟩, l⟩ := j1 c _ e1
    refine ⟨c, od, ep, xs, kvs.length, rfl, e2, l.length, k _ _ _ _ _ g1 j1 ⟨fun i μ H hi g j sr => ?_, fun μ H g j sr => ?_⟩ t1⟩
    · rw [List.length_map] at hi
      obtain ⟨xs', es', ep', a1, ⟨a2, a3⟩, l'⟩ := j c _ sr
      refine ⟨⟨⟨ep', xs', a1, l'.length⟩, hi⟩, ?_⟩
      rintro x H' ⟨rfl, es2, ep2, en, b, b1, b2, b3, rfl⟩
      obtain ⟨rfl, rfl⟩ := dict_ep a2 b1
      rw [← Array.getElem?_toList, a3, List.getElem?_map] at b2
      obtain ⟨y, hy, rfl⟩ := Option.map_eq_some_iff.mp b2
      obtain ⟨d, f1, f2⟩ := l'.get hy
      cases b3
      exact ⟨_, by rw [List.getElem?_map, f1]; rfl, Gr.refl, j, f2⟩
    · obtain ⟨xs', es', ep', a1, ⟨a2, a3⟩, l'⟩ := j c _ sr
      exact ⟨⟨ep', xs', a1, l'.length⟩, by rw [List.length_map]; exact Nat.le_refl _⟩
theorem Gr.turnL {μ : Mu} {a : Addr} {o : HO} {u u' : Ob} (h : μ a = some u) (nh : u ≠ .hid) : Gr μ H (mup μ a u') (upd H a o) := Gr.turn h nh
/-- an expression that is worked out while a dict is locked -/
def dLock (w : World) (t : DE) : DE := fun ρ μ Q => ∃ c kvs, μ c = some (.dN w kvs) ∧ ∀ od, t ρ (mup μ c (.dL od w kvs)) fun r μ2 => μ2 c = some (.dL od w kvs) ∧ Q r (mup μ2 c (.dN w kvs))
theorem DaN.unlock {K : PySem.W.Frag} {μ : Mu} {c : Addr} {od : Obj} {w : World} {kvs : List (NestedKey × D)} (j : J K μ H) (e : μ c = some (.dL od w kvs)) : ∃ ep xs, H c = some (.frz od (.ext (RawN w c ep xs))) ∧ Gr μ H (mup μ c (.dN w kvs)) (upd H c (.ext (RawN w c ep xs))) ∧ J K (mup μ c (.dN w kvs)) (upd H c (.ext (RawN w c ep xs))) := by
  obtain ⟨xs, es, ep, e2, _, l⟩ := j c _ e
  have gg : Gr μ H (mup μ c (.dN w kvs)) (upd H c (.ext (RawN w c ep xs))) := Gr.turn e
  exact ⟨ep, xs, e2, gg, j.turn e ⟨xs, ⟨_, upd_same⟩, l.grow gg⟩⟩
theorem pd_lock {G : Gh} {e : Expr} {t : DE} (h : PD X G e t) : PD X G e (dLock X.w t) := by
  refine PD.of fun pins s σ H ρ μ Q Qd I o t kk => ?_
  obtain ⟨c, kvs, e1, t⟩ := t
  obtain ⟨xs, ⟨ep, e2⟩, l⟩ := o.j c _ e1
  obtain ⟨od, I1⟩ := I.lock e2 True.intro
  obtain ⟨hs, hgd, hx, es, hdt, hsz, hel⟩ := frzN I1 upd_same
  have gg : Gr μ H (mup μ c (.dL od X.w kvs)) (upd H c (.frz od (.ext (RawN X.w c ep xs)))) := Gr.turn e1
  have jj : J X.K (mup μ c (.dL od X.w kvs)) (upd H c (.frz od (.ext (RawN X.w c ep xs)))) := o.j.turn e1 ⟨xs, es, ep, upd_same, ⟨hdt, hel⟩, l.grow gg⟩
  refine thn (h.run I1 (o.grow gg jj) (t od)) fun v s1 ⟨x, H1, I2, r, d, μ2, g2, j2, h2, e3, q⟩ => ?_
  obtain ⟨ep2, xs2, e4, g3, j3⟩ := DaN.unlock j2 e3
  exact ⟨x, _, I2.unlock e4 (I.nofrz e2 True.intro), r, kk _ _ _ _ ((gg.trans g2).trans g3) j3 (h2.grow g3) q⟩
def dLockS (w : World) (t : DS) : DS := fun D ρ μ => ∃ c kvs, μ c = some (.dN w kvs) ∧ ∀ od, t ⟨fun ρ' μ2 => μ2 c = some (.dL od w kvs) ∧ D.nx ρ' (mup μ2 c (.dN w kvs)), fun r μ2 => μ2 c = some (.dL od w kvs) ∧ D.rt r (mup μ2 c (.dN w kvs)), fun ρ' μ2 => μ2 c = some (.dL od w kvs) ∧ D.bk ρ' (mup μ2 c (.dN w kvs)), fun ρ' μ2 => μ2 c = some (.dL od w kvs) ∧ D.ct ρ' (mup μ2 c (.dN w kvs))⟩ ρ (mup μ c (.dL od w kvs))
end
end Dl

namespace Dl
open PySem PySem.Spec PyProof.Rows L2 PySem.W
/-! ### sorted -/
def RelD (K : PySem.W.Frag) (μ : Mu) (H : Hp) (u : Value) (d : D) : Prop := ∃ v, RelV v u ∧ Da K μ H v d
section
variable {K : PySem.W.Frag} {μ : Mu} {H : Hp}
theorem DaL.each : ∀ {vs : List V} {us : List Value} {ds : List D}, DaL K μ H vs ds → Vals vs us → EachIs (RelD K μ H) us ds
  | _, _, _, .nil, .nil => .nil
  | _, _, _, .cons h l, .cons r t => .cons ⟨_, r, h⟩ (DaL.each l t)
theorem each_DaL : ∀ {us : List Value} {ds : List D}, EachIs (RelD K μ H) us ds → ∃ vs, Vals vs us ∧ DaL K μ H vs ds
  | _, _, .nil => ⟨[], .nil, .nil⟩
  | _, _, .cons ⟨v, r, h⟩ t => let ⟨vs, r2, l2⟩ := each_DaL t; ⟨v :: vs, .cons r r2, .cons h l2⟩
theorem each_reads {X : Cx} {pins : List (Addr × Obj)} {σ : L2.St} {s : Shared} (I : Inv X pins σ H s) : ∀ {us : List Value} {ds : List D}, EachIs (RelD X.K μ H) us ds → purL ds = true → EachIs (fun v b => ∃ as, Reads s.heap v (py b) as) us ds
  | _, _, .nil, _ => .nil
  | _, _, .cons ⟨v, r, h⟩ t, p => by
    simp only [purL, Bool.and_eq_true] at p
    exact .cons (Dp.reads I _ v _ (h.dp p.1) r) (each_reads I t p.2)
end
def sortD (xs : List D) : List D := xs.mergeSort (dataLe false py)
def SortOk (xs : List D) : Prop := purL xs = true ∧ AllAlike (xs.map py) ∧ Sortable (xs.map py) ∧ (∀ x ∈ xs, (py x).depth ≤ 60) ∧ xs.length ≤ sizeLine
/-- sorted(arg) behind the items that are collected -/
theorem sorted_collect {prog : Program} {w : World} {A : Around} {E : Value → Shared → Prop} {s : Shared} {arg : Value} {R : Value → D → Prop} {Q : Value → Shared → Prop}
    (h : ∀ E', wpAny (model prog w) A.in1 (collect arg) (fun vs s1 => ∃ bs : List D, vs.length ≤ sizeLine ∧ EachIs R vs bs ∧ EachIs (fun v b => ∃ as, Reads s1.heap v (py b) as) vs bs ∧ AllAlike (bs.map py) ∧ Sortable (bs.map py) ∧ (∀ b ∈ bs, A.units + 2 + (py b).depth < cLine) ∧
      ∀ out n h', (∀ b o, s1.heap.get? b = some o → h'.get? b = some o) → out.length = bs.length → EachIs R out (bs.mergeSort (dataLe false py)) → h'.get? s1.heap.objs.size = some (seqObj "list" out.toArray n) → Q (.ref s1.heap.objs.size) { s1 with heap := h' }) E' s) :
    wpAny (model prog w) A (call (.builtin "sorted") [arg]) Q E s := by
  refine Calls.call_function_entry PyProof.Rows.kind_sorted PyProof.Rows.plain_sorted PyProof.Rows.entry_sorted (PyProof.Rows.args_sorted1 _) ?_
  unfold Builtin.«sorted»
  refine wpAny_bind (m := checkCount "sorted" 1 1 _) (wpAny_pure ?_)
  refine wpAny_bind (wpAny_mono (h _) (fun vs s1 hv => ?_) fun _ _ e => e)
  obtain ⟨bs, hz, e, er, hal, hk, hu, hq⟩ := hv
  refine wpAny_bind (wpAny_newList ?_ hz)
  have hoL : (s1.heap.push (seqObj "list" vs.toArray 0)).get? s1.heap.objs.size = some (seqObj "list" vs.toArray 0) := Heap.get?_push_size _ rfl
  show wpAny _ _ _ _ _ { s1 with heap := s1.heap.push (seqObj "list" vs.toArray 0) }
  have er' : EachIs (fun v b => ∃ as, Reads (sortingHeap (s1.heap.push (seqObj "list" vs.toArray 0)) s1.heap.objs.size vs) v (py b) as) vs bs := er.mono fun _ _ ⟨as, r⟩ => ⟨as, PyProof.Rows.Reads.keeps (fun b o q => by
    have hlt := Heap.lt_size q
    exact sortingHeap_old (Nat.ne_of_lt hlt) (Heap.get?_push_of_some _ q)) r⟩
  have S : SortsAt prog w A.in1.in1 { s1 with heap := sortingHeap (s1.heap.push (seqObj "list" vs.toArray 0)) s1.heap.objs.size vs } (dataKind (sortingHeap (s1.heap.push (seqObj "list" vs.toArray 0)) s1.heap.objs.size vs) (bs.map py)) vs :=
    SortsAt.data (s := { s1 with heap := sortingHeap (s1.heap.push (seqObj "list" vs.toArray 0)) s1.heap.objs.size vs }) (each_map (R := fun v d => ∃ as, Reads (sortingHeap (s1.heap.push (seqObj "list" vs.toArray 0)) s1.heap.objs.size vs) v d as) py er') hal hk (fun d hd => by
      obtain ⟨b, hb, rfl⟩ := List.mem_map.mp hd
      have := hu b hb
      show A.units + 1 + 1 + _ < _
      omega)
  refine wpAny_bind (wpAny_holding (wpAny_call_entry PyProof.Rows.slot_list_sort ⟨_, hoL, rfl⟩ PyProof.Rows.entry_list_sort
    (list_sort_vals (s := { s1 with heap := s1.heap.push (seqObj "list" vs.toArray 0) }) hoL S hz ⟨_, rfl, ?_⟩) (PyProof.Rows.args_list_sort _)))
  have eo := sortVals_data false e er' hal
  obtain ⟨e', he'⟩ := PyProof.Rows.sortedHeap_at (vs := vs) (out := (sortVals (dataKind (sortingHeap (s1.heap.push (seqObj "list" vs.toArray 0)) s1.heap.objs.size vs) (bs.map py)) false vs vs).toArray) hoL
  refine wpAny_pure ⟨_, rfl, hq _ e' _ (fun b o q => ?_) (by rw [sortVals_length false rfl]; exact e.length) eo he'⟩
  have hb : b < s1.heap.objs.size := Heap.lt_size q
  rw [PyProof.Rows.sortedHeap_old (Nat.ne_of_lt hb) (by rw [size_push']; exact Nat.lt_succ_of_lt hb)]
  exact Heap.get?_push_of_some _ q
section
variable {X : Cx} {G : Gh} {a b e o value : Expr} {es : List Expr} {ta tb te to tv ty : DE} {tA : DA} {pos pos' p apos cpos : Pos} {k j : Nat}
/-- what sorted, list, tuple collect: the items of a row, the keys of a dict -/
def colD (w : World) (μ : Mu) (x : D) (xs : List D) : Prop := (∃ c kvs, x = .ref c ∧ μ c = some (.dN w kvs) ∧ xs = kvs.map fun kv => dn kv.1) ∨ vw μ x = .lst xs ∨ vw μ x = .sq xs ∨ ∃ kvs, x = .dN w kvs ∧ xs = kvs.map fun kv => dn kv.1
theorem DaN.keysD {K : PySem.W.Frag} {μ : Mu} {H : Hp} : ∀ {xs : List (NestedKey × Addr × Value)} {kvs : List (NestedKey × D)}, DaN K μ H xs kvs → DaL K μ H (xs.map fun x => .ref x.2.1) (kvs.map fun kv => dn kv.1)
  | _, _, .nil => .nil
  | _, _, .cons h _ _ _ l => .cons h l.keysD
theorem vals_refs : ∀ {xs : List (NestedKey × Addr × Value)}, Vals (xs.map fun x => V.ref x.2.1) (xs.map fun x => Value.ref x.2.1)
  | [] => .nil
  | _ :: _ => .cons rfl vals_refs
theorem col_run (hc : X.calm = true) {pins : List (Addr × Obj)} {s : Shared} {σ : L2.St} {H : Hp} {μ : Mu} {v : V} {u : Value} {d : D} {xs : List D} {A : Around} (hA : A.handled = X.A.handled) (I : Inv X pins σ H s) (jj : J X.K μ H) (h : Da X.K μ H v d) (r : RelV v u) (c : colD X.w μ d xs) {Q : List Value → Shared → Prop} {E : Value → Shared → Prop}
    (q : ∀ us vs s1, Inv X pins σ H s1 → Vals vs us → DaL X.K μ H vs xs → us.length ≤ sizeLine → Q us s1) : wpAny (model X.prog X.w) A (collect u) Q E s := by
  have hh : A.handled = none := by rw [hA]; exact I.ok.hd hc
  have c : (∃ cc ys kvs, u = Value.ref cc ∧ RawAt H X.w cc ys ∧ DaN X.K μ H ys kvs ∧ xs = kvs.map fun kv => dn kv.1) ∨ vw μ d = .lst xs ∨ vw μ d = .sq xs := by
    rcases c with ⟨cc, kvs, rfl, e1, rfl⟩ | c | c | ⟨kvs, rfl, rfl⟩
    · cases h
      obtain ⟨ys, e2, l⟩ := jj cc _ e1
      exact .inl ⟨cc, ys, kvs, r, e2, l, rfl⟩
    · exact .inr (.inl c)
    · exact .inr (.inr c)
    · cases h with | dN n e2 l => exact .inl ⟨_, _, kvs, r, e2, l, rfl⟩
  rcases c with ⟨cc, ys, kvs, rfl, e2, l, rfl⟩ | c
  · skip
    obtain ⟨d1, d2, d3⟩ := ofH I e2 l
    obtain ⟨es, ep, hraw, hsz, hent⟩ := d1.raw
    refine kdu_collect (KdlSrc.rawDict d2) hh hraw (by rw [hsz]; exact d3) fun h' tk acc hk hacc => ?_
    have ea : acc.toList = ys.map fun x => Value.ref x.2.1 := by
      refine List.ext_getElem? fun i => ?_
      rw [List.getElem?_map]
      by_cases hi : i < es.size
      · obtain ⟨y, hy, a1, _⟩ := hent i hi
        have hi' : i < acc.size := by rw [hacc.1]; exact hi
        obtain ⟨_, ev⟩ := hacc.2 i acc[i] (by simp [hi'])
        rw [hy, Array.getElem?_toList, Array.getElem?_eq_getElem hi', ev, a1]
        rfl
      · rw [List.getElem?_eq_none (by rw [Array.length_toList, hacc.1]; omega), List.getElem?_eq_none (by omega)]
        rfl
    refine q _ _ _ (I.kept hk) (ea ▸ vals_refs) l.keysD ?_
    rw [Array.length_toList, hacc.1, hsz]
    exact d3
  · obtain ⟨aa, vs, rfl, sq, l⟩ : ∃ aa vs, v = .ref aa ∧ SqL X.K H aa vs ∧ DaL X.K μ H vs xs := by
      rcases c with c | c
      · obtain ⟨aa, vs, e1, e2, l⟩ := h.nowL jj c
        exact ⟨aa, vs, e1, SqL.of e2, l⟩
      · exact h.nowS jj c
    obtain rfl : u = Value.ref aa := r
    obtain ⟨its, rv, pl, hz⟩ := I.list sq
    have hzi : its.length ≤ sizeLine := by rw [← rv.length]; exact hz
    refine collect_list (hsz := hzi) pl.isList (q _ _ _ (I.kept fun b o e => ?_) rv l hzi)
    have hb := Heap.lt_size e
    rw [Heap.get?_update_ne _ _ _ _ (Nat.ne_of_lt hb)]
    exact Heap.get?_push_of_some _ e
def gSorted (w : World) : List D → Mu → DQ → Prop := fun ds μ Q => ∃ x xs, ds = [x] ∧ colD w μ x xs ∧ SortOk xs ∧ Q (.lst (sortD xs)) μ
theorem call_sorted (hc : X.calm = true) (hr : Room k X.A) : CallR X (.builtin "sorted") (rGL X.K (gSorted X.w)) := by
  rintro pins s σ H xs us Q I r ⟨ds, μ, Qd, jj, l, ⟨x, ys, rfl, c, ⟨ok1, ok2, ok3, ok4, ok5⟩, q⟩, kt⟩
  obtain ⟨v, rfl, hv⟩ := l.one
  obtain ⟨u, rfl, rx⟩ := vals1 r
  refine sorted_collect (R := RelD X.K μ H) fun E' => col_run (A := X.A.in1) hc rfl I jj hv rx c fun us vs s1 I1 rv lv hz => ?_
  have e := lv.each rv
  refine ⟨ys, hz, e, each_reads I1 e ok1, ok2, ok3, fun b hb => ?_, fun out n h' hk hl eo hn => ?_⟩
  · have := ok4 b hb
    have := hr.units
    omega
  · obtain ⟨ws, rw', lw⟩ := each_DaL eo
    have np := I1.hok.fresh (Nat.le_refl s1.heap.objs.size)
    have hz' : ws.length ≤ sizeLine := by rw [rw'.length, hl]; exact ok5
    exact ⟨.ref _, _, I1.laid (t' := s1.toks) (o := .lst ws) hk (Nat.le_refl _) ⟨hz', out, n, rw', hn⟩, rfl, kt.new jj np (da_lst jj np lw) q⟩
theorem pd_sorted (hc : X.calm = true) (hr : Room k X.A) (hm : X.mg "sorted" = none) (ha : PD X G a ta) (hg : Gl X "sorted" := by rfl) (hs : starEach [a] X.env = (false, eval a X.env) :: starEach [] X.env := by rfl) : PD X G (.Call (.Name "sorted" p) [a] [] pos) (dCB (gSorted X.w) (dCons ta dNil)) :=
  pd_b (call_sorted hc hr) lf_rGL hm (by first | exact boot_sorted | exact PySem.boot_sorted | kernel_rfl | rfl) (pda_cons ha pda_nil hs) hg (by decide) (by decide) hs
end
end Dl

namespace Dl
open PySem PySem.Spec PyProof.Rows L2 PySem.W
/-! ### dict(pairs), d.update(pairs) -/
def pairD (kv : NestedKey × D) : D := .tup [dn kv.1, kv.2]
section
variable {K : PySem.W.Frag} {μ : Mu} {H : Hp}
theorem nodup_storedH {xs : List (NestedKey × Addr × Value)} {k : NestedKey} {a : Addr} {u : Value} (h : (xs.map (·.1)).Nodup) : ((storedH xs k a u).map (·.1)).Nodup := by
  cases e : atKey xs k with
  | some p => rw [storedH_old e, keys_map_putAt]; exact h
  | none =>
    rw [storedH_new e, List.map_append]
    refine List.nodup_append.mpr ⟨h, by simp, ?_⟩
    intro x hx y hy z
    simp at hy
    subst hy
    subst z
    obtain ⟨q, hq, rfl⟩ := List.mem_map.mp hx
    unfold atKey at e
    rw [Option.map_eq_none_iff, List.find?_eq_none] at e
    exact e q hq (by simp)
theorem DaN.puts : ∀ {ps : List (NestedKey × Addr × Value)} {more : List (NestedKey × D)} {xs : List (NestedKey × Addr × Value)} {kvs : List (NestedKey × D)}, DaN K μ H ps more → DaN K μ H xs kvs → (xs.map (·.1)).Nodup → DaN K μ H (storedAllH xs ps) (pts kvs more)
  | _, _, _, _, .nil, l, _ => l
  | _, _, xs, kvs, .cons (k := k) (b := b) (u := u) (d := d) (xs := ps) (ds := more) h z r h2 t, l, nd => by
    show DaN K μ H (storedAllH (storedH xs k b u) ps) (pts (pt kvs k d) more)
    exact DaN.puts t (DaN.put h z r h2 l nd) (nodup_storedH nd)
theorem storedAllH_len : ∀ (ps xs : List (NestedKey × Addr × Value)), (storedAllH xs ps).length ≤ xs.length + ps.length
  | [], xs => by show xs.length ≤ _; simp
  | p :: ps, xs => by
    have h1 := storedAllH_len ps (storedH xs p.1 p.2.1 p.2.2)
    have h2 := storedH_len xs p.1 p.2.1 p.2.2
    show (storedAllH (storedH xs p.1 p.2.1 p.2.2) ps).length ≤ _
    simp only [List.length_cons]
    omega
variable {X : Cx} {pins : List (Addr × Obj)} {σ : L2.St} {s : Shared}
theorem Da.plain (I : Inv X pins σ H s) {aa : Addr} {d : D} {xs : List D} (jj : J X.K μ H) (h : Da X.K μ H (.ref aa) d) (c : vw μ d = .tup xs) {o : Obj} (e : s.heap.get? aa = some o) : plainT o := by
  have hd := vw_inv c (fun _ z => nomatch z)
  rw [hd] at h
  cases h with
  | tup e' l =>
    rcases e' with ⟨_, ob, rd, z⟩ | ⟨o', its, n, e1, _, z, _⟩
    · obtain ⟨q, _⟩ := I.hok _ _ rd
      rw [e] at q
      cases q
      exact z
    · have q := I.kIn _ _ e1
      rw [e] at q
      cases q
      exact z
/-- a row of pairs, as it stands -/
theorem DaL.pairs (I : Inv X pins σ H s) : ∀ {kvs : List (NestedKey × D)} {vs : List V} {us : List Value}, DaL X.K μ H vs (kvs.map pairD) → Vals vs us → (∀ kv ∈ kvs, nkey kv.1) →
    ∃ ts : List (Addr × NestedKey × Addr × Value), us = ts.map (fun t => Value.ref t.1) ∧ DaN X.K μ H (ts.map (·.2)) kvs ∧ ∀ t ∈ ts, PairAt s.heap t.1 (.ref t.2.2.1) t.2.2.2
  | [], _, _, .nil, .nil, _ => ⟨[], rfl, .nil, fun _ h => nomatch h⟩
  | kv :: kvs, _, _, .cons h l, .cons r t, hn => by
    obtain ⟨ts, e1, l1, p1⟩ := DaL.pairs I l t fun x hx => hn x (List.mem_cons_of_mem _ hx)
    have nk := hn kv List.mem_cons_self
    unfold pairD at h
    cases h with
    | tup e l2 =>
      rename_i a ws
      obtain ⟨its, rv, pl, hz⟩ := I.tuple (Da.sqT e)
      obtain ⟨v1, v2, rfl, h1, h2⟩ := l2.two
      obtain ⟨u1, u2, rfl, r1, r2⟩ := L2.Vals.two rv
      obtain ⟨b, rfl⟩ := h1.refOf nk
      obtain rfl : u1 = Value.ref b := r1
      cases r
      refine ⟨(a, kv.1, b, u2) :: ts, by rw [e1]; rfl, .cons h1 nk.1 r2 h2 l1, fun t ht => ?_⟩
      rcases List.mem_cons.mp ht with rfl | ht
      · obtain ⟨o, ho, hc, n, hd⟩ := pl
        exact .inl ⟨o, ho, hc, n, hd⟩
      · exact p1 t ht
end
section
variable {X : Cx} {G : Gh} {a b e o value : Expr} {es : List Expr} {ta tb te to tv ty : DE} {tA : DA} {pos pos' p apos cpos : Pos} {k j : Nat}
theorem pair_items {h : Heap} {ts : List (Addr × NestedKey × Addr × Value)} (hp : ∀ t ∈ ts, PairAt h t.1 (.ref t.2.2.1) t.2.2.2) : PairItems h (ts.map fun t => Value.ref t.1).toArray (fun j => (ts[j]?.map (·.1)).getD 0) (ts.map fun t => (Value.ref t.2.2.1, t.2.2.2)) := by
  refine ⟨by simp, fun j kk v hj => ?_⟩
  rw [List.getElem?_map] at hj
  obtain ⟨t, ht, e⟩ := Option.map_eq_some_iff.mp hj
  cases e
  simp only [ht, Option.map_some, Option.getD_some]
  exact ⟨by simp [ht], hp t (List.mem_of_getElem? ht)⟩
theorem pairs_have {P : Program} {w : World} {ts : List (Addr × NestedKey × Addr × Value)} : PairsHaveH (nestedKind P w) (ts.map fun t => (Value.ref t.2.2.1, t.2.2.2)).length (PairRel (ts.map fun t => (Value.ref t.2.2.1, t.2.2.2))) (ts.map (·.2)) := by
  refine ⟨by simp, fun i key v hi => ?_⟩
  have hi' : (ts.map fun t => (Value.ref t.2.2.1, t.2.2.2))[i]? = some (key, v) := hi
  rw [List.getElem?_map] at hi'
  obtain ⟨t, ht, e⟩ := Option.map_eq_some_iff.mp hi'
  cases e
  exact ⟨t.2.1, t.2.2.1, by rw [List.getElem?_map, ht]; rfl, rfl⟩
/-- dict(row of pairs) -/
def gDictP (w : World) : List D → Mu → DQ → Prop := fun ds μ Q => ∃ x kvs, ds = [x] ∧ (vw μ x = .lst (kvs.map pairD) ∨ vw μ x = .tup (kvs.map pairD)) ∧ (∀ kv ∈ kvs, nkey kv.1) ∧ kvs.length ≤ sizeLine ∧ ∀ p, μ p = none → Q (.ref p) (mup μ p (.dN w (pts [] kvs)))
theorem call_dictP (hc : X.calm = true) (hr : Room k X.A) : CallR X (.type "dict") (rGL X.K (gDictP X.w)) := by
  rintro pins s σ H xs us Q I r ⟨ds, μ, Qd, jj, l, ⟨x, kvs, rfl, c, hn, hz, q⟩, kt⟩
  obtain ⟨v, rfl, hv⟩ := l.one
  obtain ⟨u, rfl, rx⟩ := vals1 r
  have room : (nestedKind X.prog X.w).room X.A.in1.in1 := by show X.A.units + 1 + 1 + 8 < cLine; have := hr.units; omega
  have np := I.hok.fresh (Nat.le_refl s.heap.objs.size)
  have big : (s.heap.objs.size == sysModules) = false := (dk_empty (P := X.prog) (w := X.w) (H := H) s.heap I.big).2.1
  have fin : ∀ (ts : List (Addr × NestedKey × Addr × Value)) (h' : Heap) (tk : Nat), DaN X.K μ H (ts.map (·.2)) kvs → h'.DictOfH (nestedKind X.prog X.w) s.heap.objs.size (storedAllH [] (ts.map (·.2))) → (∀ b o, s.heap.get? b = some o → h'.get? b = some o) → EP X pins σ Q (.ref s.heap.objs.size) { s with heap := h', toks := tk } := by
    intro ts h' tk ln dd hk
    have hl : (storedAllH [] (ts.map (·.2))).length ≤ sizeLine := by
      have := storedAllH_len (ts.map (·.2)) []
      rw [ln.length] at this
      simp only [List.length_nil, Nat.zero_add] at this
      omega
    obtain ⟨ep, ok⟩ := rawOk dd big hl
    have gg : Gr μ H (mup μ s.heap.objs.size (.dN X.w (pts [] kvs))) (upd H s.heap.objs.size (.ext (RawN X.w s.heap.objs.size ep (storedAllH [] (ts.map (·.2)))))) := Gr.born np
    refine ⟨.ref _, _, I.laid (t' := tk) hk (Nat.le_refl _) (ok _), rfl, kt _ _ _ _ gg (jj.born np ⟨_, ⟨_, upd_same⟩, (DaN.puts ln .nil (by simp)).grow gg⟩) (.ref _) (q _ (jj.free np))⟩
  have stay : ∀ (ts : List (Addr × NestedKey × Addr × Value)), DaN X.K μ H (ts.map (·.2)) kvs → KeysStay (nestedKind X.prog X.w) s.heap s.heap.objs.size [] (ts.map (·.2)) := fun ts ln h' hk x hx =>
    nestedKind_stays.stays (fun b o _ _ e _ => hk b o (Nat.ne_of_lt (Heap.lt_size e)) (fun z => nomatch z) e) (ln.all I x hx)
  rcases c with c | c
  · obtain ⟨aa, vs, rfl, e1, lv⟩ := hv.nowL jj c
    obtain rfl : u = Value.ref aa := rx
    obtain ⟨its, rv, ⟨o, n, g1, g2, g3, g4⟩, _⟩ := I.list (SqL.of e1)
    obtain ⟨ts, rfl, ln, hp⟩ := DaL.pairs I lv rv hn
    have hlen : (ts.map fun t => (Value.ref t.2.2.1, t.2.2.2)).length ≤ sizeLine := by rw [List.length_map]; have := ln.length; rw [List.length_map] at this; omega
    exact call_dict_pairsH (PairArg.list aa _ _ _) (I.ok.hd hc) room ⟨⟨o, n, g1, g2, g3, g4⟩, pair_items hp⟩ pairs_have (stay ts ln) hlen fun h' tk dd hk => fin ts h' tk ln dd fun b o e => hk b o (fun z => nomatch z) e
  · obtain ⟨aa, vs, rfl, e1, lv⟩ := hv.nowT jj c
    obtain rfl : u = Value.ref aa := rx
    obtain ⟨its, rv, pl, _⟩ := I.tuple e1
    have plT : ∀ {o : Obj}, s.heap.get? aa = some o → o.dict = none := fun {o} e => (hv.plain I jj c e).1
    obtain ⟨ts, rfl, ln, hp⟩ := DaL.pairs I lv rv hn
    have hlen : (ts.map fun t => (Value.ref t.2.2.1, t.2.2.2)).length ≤ sizeLine := by rw [List.length_map]; have := ln.length; rw [List.length_map] at this; omega
    obtain ⟨o, g1, g2, n, g4⟩ := id pl
    have g3 : o.dict = none := plT g1
    exact call_dict_pairsH (PairArg.tuple aa _ _ _) (I.ok.hd hc) room ⟨⟨o, n, g1, g2, g3, g4⟩, pair_items hp⟩ pairs_have (stay ts ln) hlen fun h' tk dd hk => fin ts h' tk ln dd fun b o e => hk b o (fun z => nomatch z) e
theorem pd_dictP (hc : X.calm = true) (hr : Room k X.A) (hm : X.mg "dict" = none) (ha : PD X G a ta) (hg : Gl X "dict" := by rfl) (hs : starEach [a] X.env = (false, eval a X.env) :: starEach [] X.env := by rfl) : PD X G (.Call (.Name "dict" p) [a] [] pos) (dCB (gDictP X.w) (dCons ta dNil)) :=
  pd_ty (call_dictP hc hr) lf_rGL hm (by decide +kernel) (pda_cons ha pda_nil hs) hg (by decide) (by decide) hs
/-- d.update(row of pairs) -/
def gNUpd (w : World) : D → List D → Mu → DQ → Prop := fun x ds μ Q => ∃ c kvs y more, x = .ref c ∧ μ c = some (.dN w kvs) ∧ ds = [y] ∧ (vw μ y = .lst (more.map pairD) ∨ vw μ y = .tup (more.map pairD)) ∧ (∀ kv ∈ more, nkey kv.1) ∧ kvs.length + more.length ≤ sizeLine ∧ Q .non (mup μ c (.dN w (pts kvs more)))
theorem mt_nupd (hc : X.calm = true) (hr : Room k X.A) : MtR X "dict.update" (rGM X.K (gNUpd X.w)) := by
  rintro pins s σ H x xs v us Q I rx rs ⟨dx, ds, μ, Qd, jj, hx, l, ⟨c, kvs, y, more, rfl, e1, rfl, cy, hn, hz, q⟩, kt⟩
  cases hx
  obtain ⟨xs', e2, l'⟩ := jj c _ e1
  obtain ⟨d1, d2, d3⟩ := ofH I e2 l'
  obtain ⟨vy, rfl, hv⟩ := l.one
  obtain ⟨u, rfl, ry⟩ := vals1 rs
  obtain rfl : v = Value.ref c := rx
  have fin : ∀ (ts : List (Addr × NestedKey × Addr × Value)) (h' : Heap) (tk : Nat), DaN X.K μ H (ts.map (·.2)) more → h'.DictOfH (nestedKind X.prog X.w) c (storedAllH xs' (ts.map (·.2))) → (∀ b o, b ≠ c → s.heap.get? b = some o → h'.get? b = some o) → EP X pins σ Q .none { s with heap := h', toks := tk } := by
    intro ts h' tk ln dd hk
    have he : ∃ q, h'.get? c = some q := let ⟨q, _, _, hq, _⟩ := dd; ⟨q, hq⟩
    have hl : (storedAllH xs' (ts.map (·.2))).length ≤ sizeLine := by
      have := storedAllH_len (ts.map (·.2)) xs'
      rw [ln.length, l'.length] at this
      omega
    obtain ⟨ep, ok⟩ := rawOk dd d2 hl
    have gg : Gr μ H (mup μ c (.dN X.w (pts kvs more))) (upd H c (.ext (RawN X.w c ep (storedAllH xs' (ts.map (·.2)))))) := Gr.turn e1
    exact ⟨.non, _, I.write (x := c) (e := c) (t' := tk) (by obtain ⟨_, e2⟩ := e2; rw [e2]; exact True.intro) (.inl rfl) hk he (ok _), rfl, kt _ _ _ _ gg (jj.turn e1 ⟨_, ⟨_, upd_same⟩, (DaN.puts ln l' d1.nodup).grow gg⟩) .non q⟩
  have stay : ∀ (ts : List (Addr × NestedKey × Addr × Value)), DaN X.K μ H (ts.map (·.2)) more → KeysStay (nestedKind X.prog X.w) s.heap c [] (xs' ++ ts.map (·.2)) := by
    intro ts ln h' hk x hx
    obtain ⟨o, es, ep, ho, _, hdt, _⟩ := id d1
    refine nestedKind_stays.stays (fun b ob vs n e hd => hk b ob (fun z => ?_) (fun z => nomatch z) e) ((l'.append ln).all I x hx)
    rw [z, ho] at e
    cases e
    rw [hdt] at hd
    cases hd
  rcases cy with cy | cy
  · obtain ⟨aa, vs, rfl, e3, lv⟩ := hv.nowL jj cy
    obtain rfl : u = Value.ref aa := ry
    obtain ⟨its, rv, ⟨o, n, g1, g2, g3, g4⟩, _⟩ := I.list (SqL.of e3)
    obtain ⟨ts, rfl, ln, hp⟩ := DaL.pairs I lv rv hn
    have hlen : xs'.length + (ts.map fun t => (Value.ref t.2.2.1, t.2.2.2)).length ≤ sizeLine := by rw [List.length_map]; have := ln.length; rw [List.length_map] at this; rw [l'.length]; omega
    have hdf : c ∉ aa :: (List.range (ts.map fun t => (Value.ref t.2.2.1, t.2.2.2)).length).map (fun j => (ts[j]?.map (·.1)).getD 0) := by
      obtain ⟨oc, _, _, hoc, hex, _⟩ := id d1
      intro hm
      rcases List.mem_cons.mp hm with z | hm
      · rw [z, g1] at hoc
        cases hoc
        have hcl := hex.1
        rw [g2] at hcl
        exact absurd hcl (by decide)
      · obtain ⟨j, hj, z⟩ := List.mem_map.mp hm
        rw [List.mem_range, List.length_map] at hj
        rw [List.getElem?_eq_getElem hj] at z
        have hz' : ts[j].1 = c := z
        obtain ⟨o', ho', hcl⟩ := (hp ts[j] (List.getElem_mem hj)).there
        rw [hz', hoc] at ho'
        cases ho'
        rw [hex.1] at hcl
        rcases hcl with q | q <;> exact absurd q (by decide)
    exact call_update_pairsH (PairArg.list aa _ _ _) (I.ok.hd hc) (roomN hr) ⟨⟨o, n, g1, g2, g3, g4⟩, pair_items hp⟩ hdf pairs_have (stay ts ln) d1 hlen fun h' tk dd hk => fin ts h' tk ln dd fun b o h1 e => hk b o h1 (fun z => nomatch z) e
  · obtain ⟨aa, vs, rfl, e3, lv⟩ := hv.nowT jj cy
    obtain rfl : u = Value.ref aa := ry
    obtain ⟨its, rv, pl, _⟩ := I.tuple e3
    have plT : ∀ {o : Obj}, s.heap.get? aa = some o → o.dict = none := fun {o} e => (hv.plain I jj cy e).1
    obtain ⟨ts, rfl, ln, hp⟩ := DaL.pairs I lv rv hn
    obtain ⟨o, g1, g2, n, g4⟩ := id pl
    have g3 : o.dict = none := plT g1
    have hlen : xs'.length + (ts.map fun t => (Value.ref t.2.2.1, t.2.2.2)).length ≤ sizeLine := by rw [List.length_map]; have := ln.length; rw [List.length_map] at this; rw [l'.length]; omega
    have hdf : c ∉ aa :: (List.range (ts.map fun t => (Value.ref t.2.2.1, t.2.2.2)).length).map (fun j => (ts[j]?.map (·.1)).getD 0) := by
      obtain ⟨oc, _, _, hoc, hex, _⟩ := id d1
      intro hm
      rcases List.mem_cons.mp hm with z | hm
      · rw [z, g1] at hoc
        cases hoc
        have hcl := hex.1
        rw [g2] at hcl
        exact absurd hcl (by decide)
      · obtain ⟨j, hj, z⟩ := List.mem_map.mp hm
        rw [List.mem_range, List.length_map] at hj
        rw [List.getElem?_eq_getElem hj] at z
        have hz' : ts[j].1 = c := z
        obtain ⟨o', ho', hcl⟩ := (hp ts[j] (List.getElem_mem hj)).there
        rw [hz', hoc] at ho'
        cases ho'
        rw [hex.1] at hcl
        rcases hcl with q | q <;> exact absurd q (by decide)
    exact call_update_pairsH (PairArg.tuple aa _ _ _) (I.ok.hd hc) (roomN hr) ⟨⟨o, n, g1, g2, g3, g4⟩, pair_items hp⟩ hdf pairs_have (stay ts ln) d1 hlen fun h' tk dd hk => fin ts h' tk ln dd fun b o h1 e => hk b o h1 (fun z => nomatch z) e
theorem pd_nupd (hc : X.calm = true) (hr : Room k X.A) (ho : PD X G o to) (ha : PDA X G (e :: es) tA) (hbase : attributeBase o "update" X.env (eval o X.env) = eval o X.env := by rfl)
    (hfew : ((backTo cpos (starEach (e :: es) X.env)).all (fun x => !x.1) && (backToKw cpos (keywordEach [] X.env)).all (fun x => x.1.isSome)
      && decide ((e :: es).length + ([] : List Keyword).length + (if ([] : List Keyword).isEmpty then 0 else 1) < 30)) = true := by rfl)
    (hline : (apos.endLine == cpos.line) = true := by rfl) (hs : starEach (e :: es) X.env = (false, eval e X.env) :: starEach es X.env := by rfl) (hplain : (backTo cpos (starEach es X.env)).any (·.1) = false := by rfl) :
    PD X G (.Call (.Attribute o "update" apos) (e :: es) [] cpos) (dBM (isN X.w) (gNUpd X.w) to tA) := pd_bm PySem.F.plainAttrs_dict PySem.F.slot_dict_update PySem.F.type_dict_update ty_n (mt_nupd hc hr) ho ha hbase hfew hline hs hplain
end
end Dl

namespace Dl
open PySem PySem.Spec PyProof.Rows L2
theorem pyL_map : ∀ ds : List D, pyL ds = ds.map py
  | [] => by simp [pyL]
  | x :: xs => by simp only [pyL, List.map, pyL_map xs]
section
variable {X : Cx} {G : Gh} {a b e o value : Expr} {es : List Expr} {ta tb te to tv ty : DE} {tA : DA} {pos pos' p apos cpos : Pos} {k j : Nat}
/-! ### x in row -/
def gRIn (z : Bool) : G2 := fun x y μ Q => ∃ ys, rowOf μ y = some ys ∧ pur (vw μ x) = true ∧ purL ys = true ∧ (py (vw μ x)).depth ≤ 63 ∧ Q (.bl ((ys.any fun d => PyData.eqv (py d) (py (vw μ x))) == z)) μ
theorem rin_run {pins : List (Addr × Obj)} {s : Shared} {σ : L2.St} {H : Hp} {μ : Mu} {v : V} {u : Value} {d : D} {xs : List D} (I : Inv X pins σ H s) (jj : J X.K μ H) (h : Da X.K μ H v d) (r : RelV v u) (c : rowOf μ d = some xs) (p : purL xs = true) :
    (∃ as, Reads s.heap u (.list (pyL xs)) as) ∨ (∃ as, Reads s.heap u (.tuple (pyL xs)) as) := by
  rcases row_of c with c | c | c
  · have q := h.vdp jj (by rw [c]; simpa only [pur] using p)
    rw [c] at q
    simp only [py] at q
    exact .inl (Dp.reads I _ v u q r)
  · have q := h.vdp jj (by rw [c]; simpa only [pur] using p)
    rw [c] at q
    simp only [py] at q
    exact .inl (Dp.reads I _ v u q r)
  · have q := h.vdp jj (by rw [c]; simpa only [pur] using p)
    rw [c] at q
    simp only [py] at q
    exact .inr (Dp.reads I _ v u q r)
theorem any_pyL {ys : List D} {d : PyData} : ((pyL ys).any fun z => PyData.eqv z d) = ys.any fun z => PyData.eqv (py z) d := by
  rw [pyL_map, List.any_map]
  rfl
theorem op_rin (hr : Room k X.A) : OpR X (compareOp .In) (rG X.K (gRIn true)) := by
  rintro pins s σ H x y u w Q I rx ry ⟨dx, dy, μ, Qd, jj, hx, hy, ⟨ys, e1, p1, p2, dp, q⟩, kt⟩
  obtain ⟨as, r1⟩ := Dp.reads I _ x u (hx.vdp jj p1) rx
  have room : X.A.units + 1 + min (PyData.depthAll (pyL ys)) (py (vw μ dx)).depth < cLine := by
    have := hr.units
    have := Nat.min_le_right (PyData.depthAll (pyL ys)) (py (vw μ dx)).depth
    omega
  have e : ((ys.any fun d => PyData.eqv (py d) (py (vw μ dx))) == true) = (ys.any fun d => PyData.eqv (py d) (py (vw μ dx))) := by cases (ys.any fun d => PyData.eqv (py d) (py (vw μ dx))) <;> rfl
  rw [e] at q
  have fin : EP X pins σ Q (.bool ((pyL ys).any fun z => PyData.eqv z (py (vw μ dx)))) s := ⟨.bl _, H, I, rfl, kt.now jj (.bl _) (by rw [any_pyL]; exact q)⟩
  rcases rin_run I jj hy ry e1 p2 with ⟨bs, r2⟩ | ⟨bs, r2⟩
  · exact SeqAt.in_list_data r2 r1 (pyL_plain ys) (py_plain _) room fin
  · exact SeqAt.in_tuple_data r2 r1 (pyL_plain ys) (py_plain _) room fin
theorem op_rnin (hr : Room k X.A) : OpR X (compareOp .NotIn) (rG X.K (gRIn false)) := by
  rintro pins s σ H x y u w Q I rx ry ⟨dx, dy, μ, Qd, jj, hx, hy, ⟨ys, e1, p1, p2, dp, q⟩, kt⟩
  obtain ⟨as, r1⟩ := Dp.reads I _ x u (hx.vdp jj p1) rx
  have room : X.A.units + 1 + min (PyData.depthAll (pyL ys)) (py (vw μ dx)).depth < cLine := by
    have := hr.units
    have := Nat.min_le_right (PyData.depthAll (pyL ys)) (py (vw μ dx)).depth
    omega
  have e : ((ys.any fun d => PyData.eqv (py d) (py (vw μ dx))) == false) = !(ys.any fun d => PyData.eqv (py d) (py (vw μ dx))) := by cases (ys.any fun d => PyData.eqv (py d) (py (vw μ dx))) <;> rfl
  rw [e] at q
  have fin : EP X pins σ Q (.bool (!(pyL ys).any fun z => PyData.eqv z (py (vw μ dx)))) s := ⟨.bl _, H, I, rfl, kt.now jj (.bl _) (by rw [any_pyL]; exact q)⟩
  rcases rin_run I jj hy ry e1 p2 with ⟨bs, r2⟩ | ⟨bs, r2⟩
  · exact SeqAt.notIn_list_data r2 r1 (pyL_plain ys) (py_plain _) room fin
  · exact SeqAt.notIn_tuple_data r2 r1 (pyL_plain ys) (py_plain _) room fin
theorem pd_rin (hr : Room k X.A) (ha : PD X G a ta) (hb : PD X G b tb) (hm : behindInMarks .In b = false := by rfl) : PD X G (.Compare a [.In] [b] pos) (dOp (gRIn true) ta tb) := pd_cmp (op_rin hr) lf_rG ha hb hm
theorem pd_rnin (hr : Room k X.A) (ha : PD X G a ta) (hb : PD X G b tb) (hm : behindInMarks .NotIn b = false := by rfl) : PD X G (.Compare a [.NotIn] [b] pos) (dOp (gRIn false) ta tb) := pd_cmp (op_rnin hr) lf_rG ha hb hm
theorem pt_rin (hr : Room k X.A) (ha : PD X G a ta) (hb : PD X G b tb) (hm : behindInMarks .In b = false := by rfl) : PDT X G (.Compare a [.In] [b] pos) (dB (dOp (gRIn true) ta tb)) := pt_c (op_rin hr) lf_rG ha hb hm
theorem pt_rnin (hr : Room k X.A) (ha : PD X G a ta) (hb : PD X G b tb) (hm : behindInMarks .NotIn b = false := by rfl) : PDT X G (.Compare a [.NotIn] [b] pos) (dB (dOp (gRIn false) ta tb)) := pt_c (op_rnin hr) lf_rG ha hb hm
/-! ### lists that will be changed -/
def gAddM : G2 := fun x y μ Q => ∃ xs ys, vw μ x = .lst xs ∧ vw μ y = .lst ys ∧ xs.length + ys.length ≤ sizeLine ∧ ∀ p, μ p = none → Q (.ref p) (mup μ p (.lst (xs ++ ys)))
theorem pd_addM (ha : PD X G a ta) (hb : PD X G b tb) : PD X G (.BinOp a .Add b pos) (dOp gAddM ta tb) := by
  refine pd_op op_cat (@fun x y dx dy H μ Q Qd j hx hy g k => ?_) ha hb
  obtain ⟨xs, ys, e1, e2, hz, q⟩ := g
  obtain ⟨a1, vs, rfl, f1, l1⟩ := hx.nowL j e1
  obtain ⟨a2, ws, rfl, f2, l2⟩ := hy.nowL j e2
  refine ⟨a1, a2, vs, ws, rfl, rfl, f1, f2, by rw [l1.length, l2.length]; exact hz, fun p n => ?_⟩
  exact k _ _ _ _ (Gr.born n) (j.born (u := .lst (xs ++ ys)) n ⟨_, upd_same, (l1.append l2).grow (Gr.born n)⟩) (.ref p) (q p (j.free n))
def gListM : List D → Mu → DQ → Prop := fun ds μ Q => ∃ x xs, ds = [x] ∧ rowOf μ x = some xs ∧ ∀ p, μ p = none → Q (.ref p) (mup μ p (.lst xs))
theorem pd_listM (hm : X.mg "list" = none) (ha : PD X G a ta) (hg : Gl X "list" := by rfl) (hs : starEach [a] X.env = (false, eval a X.env) :: starEach [] X.env := by rfl) : PD X G (.Call (.Name "list" p) [a] [] pos) (dCB gListM (dCons ta dNil)) := by
  refine pd_ty call_list_of (@fun xs ds H μ Q Qd jj h g kk => ?_) hm (by decide +kernel) (pda_cons ha pda_nil hs) hg (by decide) (by decide) hs rfl
  obtain ⟨x, ys, rfl, e1, q⟩ := g
  obtain ⟨v, rfl, hv⟩ := h.one
  obtain ⟨aa, vs, rfl, sq, l⟩ := hv.row jj (row_of e1)
  exact ⟨aa, vs, rfl, sq, fun p n => kk _ _ _ _ (Gr.born n) (jj.born (u := .lst ys) n ⟨_, upd_same, l.grow (Gr.born n)⟩) (.ref p) (q p (jj.free n))⟩
/-! ### extend, pop(i) -/
def isM : D → Mu → Prop := fun x μ => ∃ c xs, x = .ref c ∧ μ c = some (.lst xs)
theorem ty_m : TyIs X "list" isM := by
  rintro pins s σ H μ v u d I jj h r ⟨c, xs, rfl, e1⟩
  cases h
  obtain rfl : u = Value.ref c := r
  obtain ⟨vs, e2, l⟩ := jj c _ e1
  exact tyV_is I (x := .ref c) rfl (.inl ⟨rfl, vs, SqL.of e2⟩)
def gExt : D → List D → Mu → DQ → Prop := fun x ds μ Q => ∃ c xs y ys, x = .ref c ∧ μ c = some (.lst xs) ∧ ds = [y] ∧ (vw μ y = .lst ys ∨ vw μ y = .tup ys) ∧ xs.length + ys.length ≤ sizeLine ∧ Q .non (mup μ c (.lst (xs ++ ys)))
theorem mt_ext : MtR X "list.extend" (rGM X.K gExt) := by
  rintro pins s σ H x xs v us Q I rx rs ⟨dx, ds, μ, Qd, jj, hx, l, ⟨c, ys, y, zs, rfl, e1, rfl, cy, hz, q⟩, kt⟩
  cases hx
  obtain ⟨vs, e2, l'⟩ := jj c _ e1
  obtain ⟨vy, rfl, hv⟩ := l.one
  rcases cy with cy | cy
  · obtain ⟨aa, ws, rfl, e3, lv⟩ := hv.nowL jj cy
    have gg : Gr μ H (mup μ c (.lst (ys ++ zs))) (upd H c (.lst (vs ++ ws))) := Gr.turn e1
    exact mt_extend pins s σ H _ _ v us Q I rx rs ⟨c, aa, vs, ws, rfl, rfl, e2, e3, by rw [l'.length, lv.length]; exact hz, kt _ _ _ _ gg (jj.turn e1 ⟨_, upd_same, (l'.append lv).grow gg⟩) .non q⟩
  · obtain ⟨aa, ws, rfl, e3, lv⟩ := hv.nowT jj cy
    obtain ⟨u, rfl, ry⟩ := vals1 rs
    obtain rfl : u = Value.ref aa := ry
    obtain rfl : v = Value.ref c := rx
    obtain ⟨its2, r2, ⟨o2, f1, f2, n2, f3⟩, _⟩ := I.tuple e3
    obtain ⟨g1, g2⟩ := hv.plain I jj cy f1
    obtain ⟨z, its, n, r, hl, e⟩ := I.lstM e2
    obtain ⟨oc, od, oda, os⟩ := o2
    simp only at f2 f3 g1 g2
    subst f2 f3 g1 g2
    have hsz : its.toArray.size + its2.toArray.size ≤ sizeLine := by rw [List.size_toArray, List.size_toArray, ← r.length, ← r2.length, l'.length, lv.length]; exact hz
    have hlong : ¬ (!its.toArray.isEmpty && Builtin.List.listTooLong (its.toArray.size + its2.toArray.size)) = true := by
      rw [notLongL hsz, Bool.and_false]
      exact Bool.false_ne_true
    refine call_meets F.slot_list_extend ⟨_, e, rfl⟩ F.entry_list_extend (F.args_list_extend_2 _ _) (AutoSeq1.list_extend_list_tuple_0 c its.toArray n aa its2.toArray n2 hlong (by rw [List.size_toArray]; omega) (by omega)) ⟨e, f1, ?_⟩
    have gg : Gr μ H (mup μ c (.lst (ys ++ zs))) (upd H c (.lst (vs ++ ws))) := Gr.turn e1
    exact ⟨.non, _, I.lset (its' := its ++ its2) e2 e (by simp) (r.append r2) (by rw [List.length_append, l'.length, lv.length]; exact hz), rfl, kt _ _ _ _ gg (jj.turn e1 ⟨_, upd_same, (l'.append lv).grow gg⟩) .non q⟩
theorem pd_ext (ho : PD X G o to) (ha : PDA X G (e :: es) tA) (hbase : attributeBase o "extend" X.env (eval o X.env) = eval o X.env := by rfl)
    (hfew : ((backTo cpos (starEach (e :: es) X.env)).all (fun x => !x.1) && (backToKw cpos (keywordEach [] X.env)).all (fun x => x.1.isSome)
      && decide ((e :: es).length + ([] : List Keyword).length + (if ([] : List Keyword).isEmpty then 0 else 1) < 30)) = true := by rfl)
    (hline : (apos.endLine == cpos.line) = true := by rfl) (hs : starEach (e :: es) X.env = (false, eval e X.env) :: starEach es X.env := by rfl) (hplain : (backTo cpos (starEach es X.env)).any (·.1) = false := by rfl) :
    PD X G (.Call (.Attribute o "extend" apos) (e :: es) [] cpos) (dBM isM gExt to tA) := pd_bm PySem.F.plainAttrs_list PySem.F.slot_list_extend PySem.F.type_list_extend ty_m mt_ext ho ha hbase hfew hline hs hplain
theorem DaL.erase {K : PySem.W.Frag} {μ : Mu} {H : Hp} : ∀ {vs : List V} {ds : List D} (n : Nat), DaL K μ H vs ds → DaL K μ H (vs.eraseIdx n) (ds.eraseIdx n)
  | _, _, _, .nil => .nil
  | _, _, 0, .cons _ l => l
  | _, _, n + 1, .cons h l => .cons h (l.erase n)
/-- xs.pop(i), 0 <= i -/
def gPopAt : D → List D → Mu → DQ → Prop := fun x ds μ Q => ∃ c xs i d, x = .ref c ∧ μ c = some (.lst xs) ∧ ds = [.int (i : Nat)] ∧ xs[i]? = some d ∧ Q d (mup μ c (.lst (xs.eraseIdx i)))
theorem mt_popA : MtR X "list.pop" (rGM X.K gPopAt) := by
  rintro pins s σ H x xs v us Q I rx rs ⟨dx, ds, μ, Qd, jj, hx, l, ⟨c, ys, i, d, rfl, e1, rfl, hi, q⟩, kt⟩
  cases hx
  obtain ⟨vs, e2, l'⟩ := jj c _ e1
  obtain ⟨vy, rfl, hv⟩ := l.one
  cases hv
  obtain ⟨w, ew, hw⟩ := l'.get hi
  have gg : Gr μ H (mup μ c (.lst (ys.eraseIdx i))) (upd H c (.lst (vs.eraseIdx i))) := Gr.turn e1
  have hlt := (List.getElem?_eq_some_iff.mp ew).1
  obtain ⟨z, _⟩ := I.lstM e2
  have hs : sizeLine = 16777216 := sizeLine_eq
  refine mt_popAt pins s σ H _ _ v us Q I rx rs ⟨c, vs, i, i, w, rfl, rfl, e2, by omega, by omega, ?_, ew, kt _ _ _ _ gg (jj.turn e1 ⟨_, upd_same, (l'.erase i).grow gg⟩) (hw.grow gg) q⟩
  unfold seqIndex?
  simp only [Int.natCast_nonneg, Int.not_lt.mpr (Int.natCast_nonneg i), if_false]
  first
    | simp [hlt]
    | (rw [if_pos (by omega)]; simp)
theorem pd_popA (ho : PD X G o to) (ha : PDA X G (e :: es) tA) (hbase : attributeBase o "pop" X.env (eval o X.env) = eval o X.env := by rfl)
    (hfew : ((backTo cpos (starEach (e :: es) X.env)).all (fun x => !x.1) && (backToKw cpos (keywordEach [] X.env)).all (fun x => x.1.isSome)
      && decide ((e :: es).length + ([] : List Keyword).length + (if ([] : List Keyword).isEmpty then 0 else 1) < 30)) = true := by rfl)
    (hline : (apos.endLine == cpos.line) = true := by rfl) (hs : starEach (e :: es) X.env = (false, eval e X.env) :: starEach es X.env := by rfl) (hplain : (backTo cpos (starEach es X.env)).any (·.1) = false := by rfl) :
    PD X G (.Call (.Attribute o "pop" apos) (e :: es) [] cpos) (dBM isM gPopAt to tA) := pd_bm PySem.F.plainAttrs_list PySem.F.slot_list_pop PySem.F.type_list_pop ty_m mt_popA ho ha hbase hfew hline hs hplain
/-! ### sum, any, all, min, int -/
theorem DaL.bools {K : PySem.W.Frag} {μ : Mu} {H : Hp} : ∀ {vs : List V} {bs : List Bool}, DaL K μ H vs (bs.map D.bl) → vs = bs.map V.bl
  | _, [], .nil => rfl
  | _, n :: ns, .cons h l => by
    cases h
    rw [DaL.bools l, List.map_cons]
def gSum : List D → Mu → DQ → Prop := fun ds μ Q => ∃ ns : List Int, ds = [.lst (ns.map .int)] ∧ Q (.int ns.sum) μ
theorem pd_sum (hc : X.calm = true) (hm : X.mg "sum" = none) (ha : PD X G a ta) (hg : Gl X "sum" := by rfl) (hs : starEach [a] X.env = (false, eval a X.env) :: starEach [] X.env := by rfl) : PD X G (.Call (.Name "sum" p) [a] [] pos) (dCB gSum (dCons ta dNil)) := by
  refine pd_b (cr_sum hc) (@fun xs ds H μ Q Qd jj h g kk => ?_) hm boot_sum (pda_cons ha pda_nil hs) hg (by decide) (by decide) hs rfl
  obtain ⟨ns, rfl, q⟩ := g
  obtain ⟨v, rfl, hv⟩ := h.one
  cases hv with | lst n e l =>
  obtain rfl := DaL.ofInts l
  exact ⟨_, ns, rfl, SqL.of e, kk.now jj (.int _) q⟩
def gAny : List D → Mu → DQ → Prop := fun ds μ Q => ∃ bs : List Bool, ds = [.lst (bs.map .bl)] ∧ Q (.bl (bs.any id)) μ
def gAll : List D → Mu → DQ → Prop := fun ds μ Q => ∃ bs : List Bool, ds = [.lst (bs.map .bl)] ∧ Q (.bl (bs.all id)) μ
theorem pd_any (hc : X.calm = true) (hm : X.mg "any" = none) (ha : PD X G a ta) (hg : Gl X "any" := by rfl) (hs : starEach [a] X.env = (false, eval a X.env) :: starEach [] X.env := by rfl) : PD X G (.Call (.Name "any" p) [a] [] pos) (dCB gAny (dCons ta dNil)) := by
  refine pd_b (cr_any hc) (@fun xs ds H μ Q Qd jj h g kk => ?_) hm boot_any (pda_cons ha pda_nil hs) hg (by decide) (by decide) hs rfl
  obtain ⟨ns, rfl, q⟩ := g
  obtain ⟨v, rfl, hv⟩ := h.one
  cases hv with | lst n e l =>
  obtain rfl := DaL.bools l
  exact ⟨_, ns, rfl, SqL.of e, kk.now jj (.bl _) q⟩
theorem pd_all (hc : X.calm = true) (hm : X.mg "all" = none) (ha : PD X G a ta) (hg : Gl X "all" := by rfl) (hs : starEach [a] X.env = (false, eval a X.env) :: starEach [] X.env := by rfl) : PD X G (.Call (.Name "all" p) [a] [] pos) (dCB gAll (dCons ta dNil)) := by
  refine pd_b (cr_all hc) (@fun xs ds H μ Q Qd jj h g kk => ?_) hm boot_all (pda_cons ha pda_nil hs) hg (by decide) (by decide) hs rfl
  obtain ⟨ns, rfl, q⟩ := g
  obtain ⟨v, rfl, hv⟩ := h.one
  cases hv with | lst n e l =>
  obtain rfl := DaL.bools l
  exact ⟨_, ns, rfl, SqL.of e, kk.now jj (.bl _) q⟩
def gMin2 : List D → Mu → DQ → Prop := fun ds μ Q => match ds with
  | [.int i, .int j] => Q (.int (if j < i then j else i)) μ
  | _ => False
theorem pd_min2 (hc : X.calm = true) (hm : X.mg "min" = none) (ha : PDA X G (e :: es) tA) (hg : Gl X "min" := by rfl) (he : starEach (e :: es) X.env = (false, eval e X.env) :: starEach es X.env := by rfl)
    (hpl : (backTo pos (starEach es X.env)).any (·.1) = false := by rfl) : PD X G (.Call (.Name "min" p) (e :: es) [] pos) (dCB gMin2 tA) := by
  refine pd_b (call_min2 hc) (@fun xs ds H μ Q Qd jj h g kk => ?_) hm boot_min ha hg (by decide) (by decide) he hpl
  unfold gMin2 at g
  split at g
  · obtain ⟨v, w, rfl, h1, h2⟩ := h.two
    cases h1
    cases h2
    exact ⟨_, _, rfl, kk.now jj (.int _) g⟩
  · exact g.elim
def gInt : List D → Mu → DQ → Prop := fun ds μ Q => match ds with
  | [.int i] => Q (.int i) μ
  | [.bl b] => Q (.int (if b = true then 1 else 0)) μ
  | _ => False
theorem pd_int1 (hm : X.mg "int" = none) (ha : PD X G a ta) (hg : Gl X "int" := by rfl) (hs : starEach [a] X.env = (false, eval a X.env) :: starEach [] X.env := by rfl) : PD X G (.Call (.Name "int" p) [a] [] pos) (dCB gInt (dCons ta dNil)) := by
  refine pd_ty call_int1 (@fun xs ds H μ Q Qd jj h g kk => ?_) hm (by decide +kernel) (pda_cons ha pda_nil hs) hg (by decide) (by decide) hs rfl
  unfold gInt at g
  split at g
  · obtain ⟨v, rfl, hv⟩ := h.one
    cases hv
    exact .inl ⟨_, rfl, kk.now jj (.int _) g⟩
  · obtain ⟨v, rfl, hv⟩ := h.one
    cases hv
    exact .inr ⟨_, rfl, kk.now jj (.int _) g⟩
  · exact g.elim
/-! ### *rows in displays -/
def dStar (te : DE) (tA : DA) : DA := fun ρ μ Q => te ρ μ fun x μ1 => ∃ xs, rowOf μ1 x = some xs ∧ tA ρ μ1 fun ys μ2 => Q (xs ++ ys) μ2
theorem pda_star (he : PD X G e te) (hr : PDA X G es tA) (hs : starEach (.Starred e p :: es) X.env = (true, eval e X.env) :: starEach es X.env := by rfl) : PDA X G (.Starred e p :: es) (dStar te tA) := by
  obtain ⟨ea, pa, fa⟩ := he.ex
  obtain ⟨eb, pb, fb⟩ := hr.ex
  refine ⟨_, StX.pa_star pa pb hs, @fun σ H ρ μ Q Qd o t k => ?_⟩
  refine fa o t fun x dx H1 μ1 g1 j1 h1 t1 => ?_
  obtain ⟨xs, e1, t1⟩ := t1
  obtain ⟨aa, vs, rfl, sq, l⟩ := h1.row j1 (row_of e1)
  refine ⟨aa, vs, rfl, sq.symm, ?_⟩
  refine fb (o.grow g1 j1) t1 fun y dy H2 μ2 g2 j2 h2 t2 => ?_
  exact k _ _ _ _ (g1.trans g2) j2 ((l.grow g2).append h2) t2
end
end Dl

/-! Dict comprehensions whose dict is told by any HO. -/
namespace Dl
open PySem PySem.Spec PyProof.Rows L2
/-- one turn's store, by values -/
abbrev TStore := Addr → V → V → Hp → (Hp → Prop) → Prop
def StoreOk (X : Cx) (S : TStore) : Prop := ∀ (Y : Cx), Y.prog = X.prog → Y.w = X.w → Y.K = X.K → Y.A = X.A → ∀ (pins : List (Addr × Obj)) (s : Shared) (σ : L2.St) (H : Hp) (D : Addr) (y z : V) (u r : Value) (N : Hp → Prop) (Q : Unit → Shared → Prop) (E : Value → Shared → Prop),
  Inv Y pins σ H s → RelV y u → RelV z r → S D y z H N → (∀ s' H', Inv Y pins σ H' s' → N H' → Q () s') → wpAny (model Y.prog Y.w) Y.A (dictSet D u r) Q E s
def tDcG (U : Addr → HO) (S : TStore) (wi : TI) (g : TG) (tt : TT) (tk tv : TE) (vs : List Nat) : TE := fun σ H Q => wi σ H fun J H1 => ∀ D, H1 D = none → ∃ W : Nat → Nat → Hp → Prop, (∃ m, W 0 m (upd H1 D (U D))) ∧ ∀ i m H, W i m H →
  (J.stop i H ∧ Q (.ref D) H) ∨ (J.go i H ∧ ∃ Nx : Hp → Prop, (∀ H', Nx H' → ∃ m', m' < m ∧ W (i + 1) m' H') ∧ ∀ x H', J.yld i H x H' → g x (L2.wipe σ vs) H' fun σ2 H2 => L2.wipe σ2 vs = L2.wipe σ vs ∧ tt σ2 H2 fun b H3 =>
    if b = true then tk σ2 H3 fun y H4 => tv σ2 H4 fun z H5 => S D y z H5 Nx else Nx H3)
section
variable {X : Cx} {U : Addr → HO} {S : TStore}
theorem dcg_core {pins : List (Addr × Obj)} {s : Shared} {σ : L2.St} {H : Hp} {Q : VK} {kx vx tg iter : Expr} {ifs : List Expr} {scope : Scope} {own : List (Str × Nat)} {pos pos' : Pos} {wi : TI} {g : TG} {tt : TT} {tk tv : TE} {use : Option (Value → Sem Unit)} {Qf : Value → Shared → Prop}
    (hU : ∀ (H : Hp) (h : Heap), sysModules < h.objs.size → ObjOk X.prog X.w H (h.push { cls := .type "dict", data := .dict #[] }) h.objs.size (U h.objs.size)) (hS : StoreOk X S)
    (hc : X.calm = true) (hN : X.N.Nodup) (iv : Inv X pins σ H s) (hi : PI X tg iter wi) (ok : BlkOk X.N X.env.scope scope own)
    (hg : ∀ (s : Shared) (H : Hp) (C : Addr) (cl : List (Str × Addr)) (fp : List Addr), PG (X.blk s H scope (compEnvC scope cl C X.env) fp) tg g)
    (ht : ∀ (s : Shared) (H : Hp) (C : Addr) (cl : List (Str × Addr)) (fp : List Addr), PTs (X.blk s H scope (compEnvC scope cl C X.env) fp) ifs tt)
    (hk : ∀ (s : Shared) (H : Hp) (C : Addr) (cl : List (Str × Addr)) (fp : List Addr), PE (X.blk s H scope (compEnvC scope cl C X.env) fp) kx tk)
    (he : ∀ (s : Shared) (H : Hp) (C : Addr) (cl : List (Str × Addr)) (fp : List Addr), PE (X.blk s H scope (compEnvC scope cl C X.env) fp) vx tv) (hs : ∀ x, foldedSetIterable iter X.env x = pure x)
    (rd : tDcG U S wi g tt tk tv (own.map (·.2)) σ H Q)
    (post : ∀ D C s' m H', Inv X pins σ H' s' → Q (.ref D) H' → s'.heap.Ns C m → FpOk X pins H' C → compPost (model X.prog X.w) X.A X.xe use Qf (.ref D) C (.ok .next) s') :
    wpAny (model X.prog X.w) X.A (comprehension (.DictComp kx vx [⟨tg, iter, ifs, 0⟩] scope pos) scope X.env pos' newDict false (eval iter X.env) use) Qf X.xe s := by
  have free : ∀ y ∈ scope.names, y.2 = .free → ∃ c, X.env.cells.lookup y.1 = some c := fun y hy e => iv.ok.has _ ((ok.free y hy e).imp id id)
  refine wpAny_comprehension_free (use := use) rfl hs (closure_ok free) ok.kind (fun y hy e => (ok.uniq y hy).trans (by rw [e])) ?_
  refine thn (hi.run pins s σ H _ iv rd) fun xv ta ha => thn ha fun itv tb hb => ?_
  obtain ⟨it, fp, tn, It, Hb, rfl, ib, T, stb, fb, q⟩ := hb
  refine wpAny_newObj_type (newEnv_comp ?_)
  have hDn : Hb tb.heap.objs.size = none := ib.hok.fresh (Nat.le_refl _)
  obtain ⟨W, ⟨m0, w0⟩, turn⟩ := q tb.heap.objs.size hDn
  generalize hD : tb.heap.objs.size = D at hDn w0 turn
  generalize hc' : ({ tb with heap := tb.heap.push { cls := .type "dict", data := .dict #[] } } : Shared) = tc
  have ec : tc.heap = tb.heap.push { cls := .type "dict", data := .dict #[] } := by rw [← hc']
  have ic : Inv X pins σ (upd Hb D (U D)) tc := by
    subst hD
    subst hc'
    exact ib.laid (t' := tb.toks) (fun b o e => Heap.get?_push_of_some _ e) (Nat.le_refl _) (hU _ _ ib.big)
  have fc : ∀ b ∈ fp, FpOk X pins (upd Hb D (U D)) b ∧ b < tc.heap.objs.size := fun b hb => by
    obtain ⟨o, e, _⟩ := T.obj _ _ stb b hb
    have lt := Heap.lt_size e
    exact ⟨⟨by rw [upd_ne (by rw [← hD]; exact Nat.ne_of_lt lt)]; exact (fb b hb).1, (fb b hb).2⟩, by rw [ec, Heap.size_push]; exact Nat.lt_succ_of_lt lt⟩
  have stc : tn 0 tc.heap := T.keep _ _ _ stb fun b _ o e => by rw [ec]; exact Heap.get?_push_of_some _ e
  have bs := block_start ic ok hN fc
  generalize hcl : cellsFrom (tc.heap.objs.size + 1) scope.names (cloFrom X.env.cells scope.names []) = cl at bs
  show codeAny _ _ (.compStart (.DictComp kx vx [⟨tg, iter, ifs, 0⟩] scope pos) 0 (.ref it) (.ref D) (compEnvC scope cl tc.heap.objs.size X.env)) (compPost (model X.prog X.w) X.A X.xe use Qf (.ref D) tc.heap.objs.size) { tc with heap := pushCells (tc.heap.push { cls := .type "dict", data := .dict #[] }) scope.names }
  have none0 : ∀ b ∈ fp, (upd Hb D (U D)) b = none := fun b hb => (fc b hb).1.1
  generalize hH : upd Hb D (U D) = Hc at ic bs w0 none0 fc
  have pg := hg tc Hc tc.heap.objs.size cl fp
  have pt := ht tc Hc tc.heap.objs.size cl fp
  have pk := hk tc Hc tc.heap.objs.size cl fp
  have pv := he tc Hc tc.heap.objs.size cl fp
  generalize hce : compEnvC scope cl tc.heap.objs.size X.env = ce at bs pg pt pk pv ⊢
  have loc : ce.locals = tc.heap.objs.size := by subst hce; rfl
  generalize hd : ({ tc with heap := pushCells (tc.heap.push { cls := .type "dict", data := .dict #[] }) scope.names } : Shared) = td at bs ⊢
  have std : tn 0 td.heap := T.keep _ _ _ stc fun b _ o e => by rw [← hd]; exact pushCells_keeps _ _ _ _ (Heap.get?_push_of_some _ e)
  have own' : ∀ {σ' : L2.St} {H' : Hp} {s' : Shared}, Inv (X.blk tc Hc scope ce fp) [] σ' H' s' → (∀ b ∈ fp, H' b = none) → ∀ b ∈ fp, FpOk (X.blk tc Hc scope ce fp) [] H' b := fun {σ' H' s'} i' hn b hb =>
    ⟨hn b hb, (i'.ok.exf b hb).1, i'.ok.exfs b hb, .inl hb, fun x c e => (i'.ok.exf b hb).2 x c e, fun p hp => absurd (show p ∈ ([] : List (Addr × Obj)) ++ [] from hp) (by simp)⟩
  have loop : codeAny (model X.prog X.w) X.A (.compLoop (.DictComp kx vx [⟨tg, iter, ifs, 0⟩] scope pos) 0 (.ref it) (.ref D) ce) (compPost (model X.prog X.w) X.A X.xe use Qf (.ref D) tc.heap.objs.size) td := by
    refine compLoop_anyD (fun n s' => ∃ i H', Inv (X.blk tc Hc scope ce fp) [] (L2.wipe σ (own.map (·.2))) H' s' ∧ tn i s'.heap ∧ (∀ b ∈ fp, H' b = none) ∧ W i n H') ?_ m0 ⟨0, Hc, bs, std, none0, w0⟩
    rintro n te ⟨i, He, ie, ste, ne, we⟩
    rcases turn i n He we with ⟨stop, qe⟩ | ⟨go, Nx, hNx, step⟩
    · refine thnF (T.done (X.blk tc Hc scope ce fp) rfl rfl rfl hc i [] te _ He (fun _ _ => False) ie (own' ie ne) ste stop) fun r tf hf => ?_
      obtain ⟨rfl, jf⟩ := hf
      have back : Inv X pins σ He tf := ic.call' (ch := fp) jf.os jf.base jf.hok jf.bare fun b hb => ⟨(fc b hb).1.2.2.2.1, (fc b hb).1.2.1, (fc b hb).1.2.2.2.2.1, (fc b hb).1.2.2.2.2.2⟩
      have noC : He tc.heap.objs.size = none := loc ▸ (show He ce.locals = none from jf.free)
      obtain ⟨m, hn, _⟩ := jf.loc
      exact post D tc.heap.objs.size tf m He back qe (loc ▸ (show tf.heap.Ns ce.locals m from hn)) (ic.fpOk (Nat.le_refl _) noC)
    · refine thnF (T.item (X.blk tc Hc scope ce fp) rfl rfl rfl hc i [] te _ He (fun _ _ => False) ie (own' ie ne) ste go) fun r tf hf => ?_
      obtain ⟨u, rfl, hf⟩ := hf
      refine thnF hf fun _ tg' hg' => ?_
      obtain ⟨x, Hg, jg, rg, yg, stg, ng⟩ := hg'
      refine thnF (pg.run _ tg' _ Hg x u _ (jg.pinned (own' jg ng) (T.obj _ _ stg)) rg (step x Hg yg)) fun _ th hh => ?_
      obtain ⟨σh, Hh, jh, wh, qh⟩ := hh
      refine thnF (pt.run _ th σh Hh _ jh qh) fun b tj hj => ?_
      obtain ⟨Hj, jj, qj⟩ := hj
      have last : ∀ {s' : Shared} {H' : Hp}, Inv (X.blk tc Hc scope ce fp) ([] ++ pinsAt fp tg'.heap) σh H' s' → Nx H' → ∃ m, m < n ∧ ∃ i H', Inv (X.blk tc Hc scope ce fp) [] (L2.wipe σ (own.map (·.2))) H' s' ∧ tn i s'.heap ∧ (∀ b ∈ fp, H' b = none) ∧ W i m H' := by
        intro s' H' j' nx
        obtain ⟨m', lt, w'⟩ := hNx H' nx
        have pin : ∀ b ∈ fp, ∀ o, tg'.heap.get? b = some o → s'.heap.get? b = some o ∧ H' b = none := fun b hb o e =>
          have z := j'.pin (b, o) (List.mem_append_right _ (List.mem_append_right _ (mem_pinsAt hb e)))
          ⟨z.1, z.2.1⟩
        refine ⟨m', lt, i + 1, H', (j'.unpinned (pins := [])).weak (by rw [← wh, wipe_length]) (fun k v e => ?_), T.keep _ _ _ stg fun b hb o e => (pin b hb o e).1, fun b hb => ?_, w'⟩
        · rw [← wh] at e
          exact (wipe_some e).1
        · obtain ⟨o, e, _⟩ := T.obj _ _ stg b hb
          exact (pin b hb o e).2
      cases b with
      | false =>
        simp only [Bool.false_eq_true, if_false] at qj ⊢
        exact last jj qj
      | true =>
        simp only [if_true] at qj ⊢
        refine thnF (pk.run _ tj σh Hj _ jj qj) fun z tk' hk' => ?_
        obtain ⟨yk, Hk, jk, rk, qk⟩ := hk'
        refine thnF (pv.run _ tk' σh Hk _ jk qk) fun z2 tl hl => ?_
        obtain ⟨yv, Hl, jl, rl, st⟩ := hl
        exact hS (X.blk tc Hc scope ce fp) rfl rfl rfl rfl _ tl σh Hl D yk yv z z2 Nx _ _ jl rk rl st fun s' H' i' nx => last i' nx
  exact codeAny_compStart_dict loop (T.self X.A 0 _ _ _ std loop)
theorem pe_dcg {kx vx tg iter : Expr} {ifs : List Expr} {scope : Scope} {own : List (Str × Nat)} {pos : Pos} {wi : TI} {g : TG} {tt : TT} {tk tv : TE}
    (hU : ∀ (H : Hp) (h : Heap), sysModules < h.objs.size → ObjOk X.prog X.w H (h.push { cls := .type "dict", data := .dict #[] }) h.objs.size (U h.objs.size)) (hS : StoreOk X S) (hc : X.calm = true) (hN : X.N.Nodup) (hi : PI X tg iter wi) (ok : BlkOk X.N X.env.scope scope own)
    (hg : ∀ (s : Shared) (H : Hp) (C : Addr) (cl : List (Str × Addr)) (fp : List Addr), PG (X.blk s H scope (compEnvC scope cl C X.env) fp) tg g)
    (ht : ∀ (s : Shared) (H : Hp) (C : Addr) (cl : List (Str × Addr)) (fp : List Addr), PTs (X.blk s H scope (compEnvC scope cl C X.env) fp) ifs tt)
    (hk : ∀ (s : Shared) (H : Hp) (C : Addr) (cl : List (Str × Addr)) (fp : List Addr), PE (X.blk s H scope (compEnvC scope cl C X.env) fp) kx tk)
    (he : ∀ (s : Shared) (H : Hp) (C : Addr) (cl : List (Str × Addr)) (fp : List Addr), PE (X.blk s H scope (compEnvC scope cl C X.env) fp) vx tv) (hs : ∀ x, foldedSetIterable iter X.env x = pure x := by intro _; rfl) :
    PE X (.DictComp kx vx [⟨tg, iter, ifs, 0⟩] scope pos) (tDcG U S wi g tt tk tv (own.map (·.2))) := by
  refine ⟨fun pins s σ H Q I rd => ?_⟩
  rw [arm_eval_DictComp]
  refine dcg_core hU hS hc hN I hi ok hg ht hk he hs rd fun D C s' m H' i' q hn f => ⟨m, hn, fun h'' sb => ?_⟩
  exact ⟨.ref D, H', i'.turned (t' := s'.toks) (fun b o hb e => (sb.2 b hb).trans e) f.1 f.2.1 f.2.2.2.1 f.2.2.2.2.1 f.2.2.2.2.2, rfl, q⟩
end
end Dl

/-! {k: v for ..}, nested keys -/
namespace Dl
open PySem PySem.Spec PyProof.Rows L2
def SN (K : PySem.W.Frag) (w : World) : TStore := fun D y z H N => ∃ xs kvs μ k b, y = .ref b ∧ RawAt H w D xs ∧ DaN K μ H xs kvs ∧ Da K μ H (.ref b) (dn k) ∧ k.depth ≤ 8 ∧ xs.length < sizeLine ∧ ∀ r ep, RelV z r → N (upd H D (.ext (RawN w D ep (storedH xs k b r))))
section
variable {X : Cx} {G : Gh} {pos : Pos} {k : Nat}
theorem sn_ok (hr : Room k X.A) : StoreOk X (SN X.K X.w) := by
  rintro Y eP eW eK eA pins s σ H D y z u r N Q E I ry rz ⟨xs, kvs, μ, n, b, rfl, e2, l, h, z1, z2, nx⟩ fin
  rw [← eK] at l h
  rw [← eW] at e2 nx
  obtain ⟨d1, d2, d3⟩ := ofH I e2 l
  obtain rfl : u = Value.ref b := ry
  have room : (nestedKind Y.prog Y.w).room Y.A := by
    show Y.A.units + 8 < cLine
    rw [eA]
    have := hr.units
    omega
  refine wpAny_dictSet_heap (hsz := d3) room (h.isN I z1) d1 fun h' dd hs => ?_
  obtain ⟨ep, ok⟩ := rawOk dd d2 (by have := storedH_len xs n b r; omega)
  refine fin _ _ ?_ (nx r ep rz)
  have he : ∃ q, h'.get? D = some q := let ⟨q, _, _, hq, _⟩ := dd; ⟨q, hq⟩
  exact d_write I (by obtain ⟨_, e2⟩ := e2; rw [e2]; exact True.intro) hs he (ok _)
theorem rawNew {P : Program} {w : World} {H : Hp} {h : Heap} (big : (h.objs.size == sysModules) = false) : ObjOk P w H (h.push { cls := .type "dict", data := .dict #[] }) h.objs.size (.ext (RawN w h.objs.size 0 [])) := by
  obtain ⟨o, es, ep, h1, h2, h3, h4, _, h5⟩ := Heap.DictOfH.new (knd := nestedKind P w) h
  have e := h1.symm.trans (Heap.get?_push_size (o := { cls := .type "dict", data := .dict #[] }) h rfl)
  cases e
  cases h3
  refine ⟨⟨_, _, h1, h2, rfl, h4, h5, big, Nat.zero_le _⟩, ⟨_, h1⟩, ?_⟩
  rintro g1 g2 ⟨o, es, h1, r⟩ k
  exact ⟨o, es, k _ h1, r⟩
def dNDc (w : World) (ti : DI) (g : DG) (tt : DT) (tk tv : DE) (vs : List Nat) : DE := fun ρ μ Q => ti ρ μ fun xs src μ1 => ∀ E, μ1 E = none → ∃ Pv : Nat → List (NestedKey × D) → Mu → Prop, Pv 0 [] (mup μ1 E .hid) ∧ (∀ i acc μ, Pv i acc μ → src μ) ∧
  (∀ i x acc μ, xs[i]? = some x → Pv i acc μ → g x (wipeD ρ vs) μ fun ρ2 μ2 => tt ρ2 μ2 fun b μ3 => if b = true then tk ρ2 μ3 fun y μ4 => tv ρ2 μ4 fun z μ5 => ∃ n, y = dn n ∧ nkey n ∧ acc.length < sizeLine ∧ Pv (i + 1) (pt acc n z) μ5 else Pv (i + 1) acc μ3) ∧
  ∀ acc μ, Pv xs.length acc μ → Q (.ref E) (mup μ E (.dN w acc))
theorem dc_read {K : PySem.W.Frag} {w : World} {own : List (Str × Nat)} {ti : DI} {wi : TI} {g : DG} {tt : DT} {tk tv : DE}
    (fi : ∀ {σ : L2.St} {H : Hp} {ρ : Ro} {μ : Mu} {R : It → Hp → Prop} {Rd : List D → (Mu → Prop) → Mu → Prop}, Okd K G μ H σ ρ → ti ρ μ Rd → (∀ It xs src H' μ', Gr μ H μ' H' → J K μ' H' → ItD K It xs src μ' H' → Rd xs src μ' → R It H') → wi σ H R)
    {σ : L2.St} {H : Hp} {ρ : Ro} {μ : Mu} {Q : VK} {Qd : DQ} (o : Okd K G μ H σ ρ) (t : dNDc w ti g tt tk tv (own.map (·.2)) ρ μ Qd) (kt : Kt K μ H Q Qd) :
    tDcG (fun D => .ext (RawN w D 0 [])) (SN K w) wi (canG K G (own.map (·.2)) g) (canT K G tt) (canE K G tk) (canE K G tv) (own.map (·.2)) σ H Q := by
  refine fi o t fun It xs src H1 μ1 g1 j1 I t1 E nE => ?_
  obtain ⟨Pv, p0, psrc, step, pe⟩ := t1 E (j1.free nE)
  have o1 := (o.grow g1 j1).wipe (own.map (·.2))
  have gb : Gr μ1 H1 (mup μ1 E .hid) (upd H1 E (.ext (RawN w E 0 []))) := Gr.born nE
  have jb : J K (mup μ1 E .hid) (upd H1 E (.ext (RawN w E 0 []))) := j1.born nE (by show upd H1 E _ E ≠ none; rw [upd_same]; simp)
  refine ⟨fun i m H2 => m = xs.length - i ∧ i ≤ xs.length ∧ ∃ av acc μ2, RawAt H2 w E av ∧ μ2 E = some .hid ∧ DaN K μ2 H2 av acc ∧ (av.map (·.1)).Nodup ∧ Gr μ1 H1 μ2 H2 ∧ Okd K G μ2 H2 (L2.wipe σ (own.map (·.2))) (wipeD ρ (own.map (·.2))) ∧ Pv i acc μ2,
    ⟨_, rfl, Nat.zero_le _, [], [], _, ⟨_, upd_same⟩, mup_same, .nil, by simp, gb, o1.grow gb jb, p0⟩, ?_⟩
  rintro i m H2 ⟨rfl, hi, av, acc, μ2, ⟨ep, e1⟩, e2, l2, nd, g2, o2, p2⟩
  by_cases hl : i < xs.length
  · obtain ⟨go, yl⟩ := I.step i μ2 H2 hl g2 o2.j (psrc _ _ _ p2)
    refine .inr ⟨go, fun H' => ∃ av acc μ2, RawAt H' w E av ∧ μ2 E = some .hid ∧ DaN K μ2 H' av acc ∧ (av.map (·.1)).Nodup ∧ Gr μ1 H1 μ2 H' ∧ Okd K G μ2 H' (L2.wipe σ (own.map (·.2))) (wipeD ρ (own.map (·.2))) ∧ Pv (i + 1) acc μ2, fun H' h => ⟨xs.length - (i + 1), by omega, rfl, hl, h⟩, fun x H' y => ?_⟩
    obtain ⟨d, ed, g3, j3, h3⟩ := yl x H' y
    have o3 := o2.grow g3 j3
    have b3 := g3.hid E _ e2 e1
    refine ⟨d, _, μ2, _, o3, h3, step i d acc μ2 ed p2, fun σ4 H4 ρ4 μ4 g4 o4 w4 q4 => ?_⟩
    have b4 := g4.hid E _ b3.1 b3.2
    refine ⟨?_, ρ4, μ4, _, o4, q4, fun b H5 μ5 g5 j5 q5 => ?_⟩
    · rw [w4]
      exact wipe_idem _ _
    have b5 := g5.hid E _ b4.1 b4.2
    have o5 := (o3.grow g4 o4.j).grow g5 j5
    have gall : Gr μ1 H1 μ5 H5 := ((g2.trans g3).trans g4).trans g5
    have l5 := ((l2.grow g3).grow g4).grow g5
    cases b with
    | false => exact iteF ⟨av, acc, μ5, ⟨ep, b5.2⟩, b5.1, l5, nd, gall, o5, by simpa using q5⟩
    | true =>
      refine iteT ⟨ρ4, μ5, _, o4.grow g5 j5, by simpa using q5, fun vk dk H6 μ6 g6 j6 h6 q6 => ?_⟩
      refine ⟨ρ4, μ6, _, (o4.grow g5 j5).grow g6 j6, q6, fun vz dz H7 μ7 g7 j7 h7 q7 => ?_⟩
      obtain ⟨n, rfl, nk, hz, pn⟩ := q7
      have b7 := g7.hid E _ (g6.hid E _ b5.1 b5.2).1 (g6.hid E _ b5.1 b5.2).2
      have l7 := (l5.grow g6).grow g7
      have n7 : μ7 E ≠ none := by rw [b7.1]; simp
      have hk := h6.grow g7
      obtain ⟨bk, rfl⟩ := hk.refOf nk
      refine ⟨av, acc, μ7, n, bk, rfl, ⟨ep, b7.2⟩, l7, hk, nk.1, by rw [l7.length]; exact hz, fun r ep2 rr => ?_⟩
      have g8 := (gall.trans g6).trans g7
      exact ⟨_, _, μ7, ⟨_, upd_same⟩, b7.1, (DaN.put hk nk.1 rr h7 l7 nd).over n7, nodup_storedH nd, g8.over nE, ((o5.grow g6 j6).grow g7 j7).over b7.1 (G.go o1.g (g8.over nE)), pn⟩
  · have e : i = xs.length := by omega
    subst e
    refine .inl ⟨I.fin μ2 H2 g2 o2.j (psrc _ _ _ p2), ?_⟩
    have g3 : Gr μ1 H1 (mup μ2 E (.dN w acc)) H2 := by
      refine ⟨g2.keep, fun b h1 h2 => ?_, fun b u hb hu => ?_⟩
      · by_cases z : b = E
        · rw [z]; exact nE
        · rw [mup_ne z] at h2; exact g2.new b h1 h2
      · rw [mup_ne (ne_of_none hu nE)]
        exact g2.hid b u hb hu
    have j3 : J K (mup μ2 E (.dN w acc)) H2 := by
      have q := o2.j.show (p := E) (o := .ext (RawN w E ep av)) (u := .dN w acc) e2 ⟨av, ⟨_, upd_same⟩, (l2.over (by rw [e2]; simp)).re (show_none e2)⟩
      have e : upd H2 E (.ext (RawN w E ep av)) = H2 := by
        funext b
        unfold upd
        split
        · rename_i z; rw [z, e1]
        · rfl
      rw [e] at q
      exact q
    exact kt _ _ _ _ (g1.trans g3) j3 (.ref E) (pe _ _ p2)
theorem pd_ndc {kx vx tg iter : Expr} {ifs : List Expr} {scope : Scope} (own : List (Str × Nat)) {ti : DI} {g : DG} {tt : DT} {tk tv : DE} (hr : Room k X.A) (hc : X.calm = true) (hN : X.N.Nodup) (hi : PDI X G tg iter ti) (ok : BlkOk X.N X.env.scope scope own)
    (hg : ∀ (s : Shared) (H : Hp) (C : Addr) (cl : List (Str × Addr)) (fp : List Addr), PCG (X.blk s H scope (compEnvC scope cl C X.env) fp) G (own.map (·.2)) tg g) (ht : ∀ (s : Shared) (H : Hp) (C : Addr) (cl : List (Str × Addr)) (fp : List Addr), PDTs (X.blk s H scope (compEnvC scope cl C X.env) fp) G ifs tt)
    (hk : ∀ (s : Shared) (H : Hp) (C : Addr) (cl : List (Str × Addr)) (fp : List Addr), PD (X.blk s H scope (compEnvC scope cl C X.env) fp) G kx tk) (he : ∀ (s : Shared) (H : Hp) (C : Addr) (cl : List (Str × Addr)) (fp : List Addr), PD (X.blk s H scope (compEnvC scope cl C X.env) fp) G vx tv) (hs : ∀ x, foldedSetIterable iter X.env x = pure x := by intro _; rfl) :
    PD X G (.DictComp kx vx [⟨tg, iter, ifs, 0⟩] scope pos) (dNDc X.w ti g tt tk tv (own.map (·.2))) := by
  obtain ⟨wi, pi, fi⟩ := hi.ex
  have hU : ∀ (H : Hp) (h : Heap), sysModules < h.objs.size → ObjOk X.prog X.w H (h.push { cls := .type "dict", data := .dict #[] }) h.objs.size ((fun D => HO.ext (RawN X.w D 0 [])) h.objs.size) := fun H h big =>
    rawNew (dk_empty (P := X.prog) (w := X.w) (H := H) h big).2.1
  exact ⟨_, pe_dcg (g := canG X.K G (own.map (·.2)) g) (tt := canT X.K G tt) (tk := canE X.K G tk) (tv := canE X.K G tv) hU (sn_ok hr) hc hN pi ok (fun s H C cl fp => (hg s H C cl fp).ok) (fun s H C cl fp => (ht s H C cl fp).ok) (fun s H C cl fp => (hk s H C cl fp).can) (fun s H C cl fp => (he s H C cl fp).can) hs,
    @fun σ H ρ μ Q Qd o t kt => dc_read fi o t kt⟩
end
end Dl

namespace Dl
open PySem PySem.Spec PyProof.Rows L2
section
variable {X : Cx} {G : Gh} {a b e o value : Expr} {es : List Expr} {ta tb te to tv ty : DE} {tA : DA} {pos pos' p apos cpos : Pos} {k j : Nat}
/-! ### a row of any kind, walked -/
def dRowA (te : DE) : DI := fun ρ μ R => te ρ μ fun x μ1 => ∃ xs, rowOf μ1 x = some xs ∧ R xs (fun μ => rowOf μ x = some xs) μ1
theorem di_row {tg : Expr} (he : PD X G e te) : PDI X G tg e (dRowA te) := by
  obtain ⟨ea, pa, fa⟩ := he.ex
  refine ⟨fun σ H R => ea σ H fun x H1 => ∃ a, x = .ref a ∧ ((∃ xs, SqL X.K H1 a xs) ∧ R (Itl X.K a) H1 ∨ (∃ xs, SqT X.K H1 a xs) ∧ R (Itt X.K a) H1), ⟨fun pins s σ H R I h => ?_⟩, @fun σ H ρ μ R Rd o t k => fa o t fun x dx H1 μ1 g1 j1 h1 t1 => ?_⟩
  · refine thn (pa.run pins s σ H _ I h) fun u s1 hx => ?_
    obtain ⟨x, H1, I1, rx, c, rfl, q⟩ := hx
    obtain rfl : u = Value.ref c := rx
    rcases q with ⟨⟨xs, hq⟩, q⟩ | ⟨⟨xs, hq⟩, q⟩
    · obtain ⟨its, rv, pl, hz⟩ := I1.list hq
      exact wpAny_pyIter_list pl.isList (pi_one (tk := s1.toks) I1 _ (turn_list c _) ⟨_, Heap.get?_push_size _ rfl, rfl, rfl⟩ q)
    · obtain ⟨its, rv, pl, hz⟩ := I1.tuple hq
      exact wpAny_pyIter_tuple (show s1.heap.IsTuple c its.toArray from pl) (pi_one (tk := s1.toks) I1 _ (turn_tuple c _) ⟨_, Heap.get?_push_size _ rfl, rfl, rfl⟩ q)
  · obtain ⟨xs, e1, t1⟩ := t1
    by_cases ht : ∃ ys, dx = .tup ys
    · obtain ⟨ys, rfl⟩ := ht
      have ey : ys = xs := by simpa [rowOf, vw] using e1
      subst ey
      cases h1 with
      | tup q l =>
        refine ⟨_, rfl, .inr ⟨⟨_, Da.sqT q⟩, k _ _ _ _ _ g1 j1 (it_tup fun μ H g j _ => ⟨_, ?_, l.grow g⟩) t1⟩⟩
        refine Da.sqT (μ := μ) ?_
        rcases q with ⟨n, ob, e, z⟩ | q
        · exact .inl ⟨g.out n e, ob, g.keep _ _ n e, z⟩
        · exact .inr q
    · have nt : ∀ {μ : Mu} {H : Hp} {v : V}, J X.K μ H → Da X.K μ H v dx → rowOf μ dx = some xs → ∃ a vs, v = .ref a ∧ SqL X.K H a vs ∧ DaL X.K μ H vs xs := by
        intro μ H v jj h e
        rcases row_of e with c | c | c
        · obtain ⟨aa, vs, f1, f2, l⟩ := h.nowL jj c
          exact ⟨aa, vs, f1, SqL.of f2, l⟩
        · exact h.nowS jj c
        · exact absurd ⟨xs, vw_inv c (fun _ z => nomatch z)⟩ ht
      obtain ⟨aa, vs, rfl, sq, l⟩ := nt j1 h1 e1
      refine ⟨aa, rfl, .inl ⟨⟨_, sq⟩, k _ _ _ _ _ g1 j1 (it_list fun μ H g j sr => ?_) t1⟩⟩
      obtain ⟨a2, ws, e2, sq2, l2⟩ := nt j (h1.grow g) sr
      cases e2
      exact ⟨ws, sq2, l2⟩
/-- a tuple of the module -/
theorem pd_gtup {x : Str} {vs : List V} {ds : List D} (h : ∃ a, X.mg x = some (.ref a) ∧ KT X.K a vs) (hd : ∀ μ H, DaL X.K μ H vs ds) (hg : Gl X x := by rfl) (hdb : (x == ("__debug__" : Str)) = false := by decide) : PD X G (.Name x pos) (dC (.tup ds)) :=
  pd_glob (v := .ref h.choose) h.choose_spec.1 rfl (fun μ H => .tup (.inr h.choose_spec.2) (hd μ H)) hg hdb
end
/-! ### loops as they are left to be answered -/
def ForR (xs : List D) (src : Mu → Prop) (g : DG) (tb : DS) (D : DEnds) (ρ : Ro) (μ : Mu) : Prop := ∃ Pv : Nat → Ro → Mu → Prop, Pv 0 ρ μ ∧ (∀ i ρ μ, Pv i ρ μ → src μ) ∧
  (∀ i x ρ μ, xs[i]? = some x → Pv i ρ μ → g x ρ μ fun ρ2 μ2 => tb { D with nx := Pv (i + 1), ct := Pv (i + 1), bk := D.nx } ρ2 μ2) ∧ ∀ ρ μ, Pv xs.length ρ μ → D.nx ρ μ
def LcR (xs : List D) (src : Mu → Prop) (g : DG) (tt : DT) (te : DE) (vs : List Nat) (ρ : Ro) (μ1 : Mu) (Q : DQ) : Prop := ∀ E, μ1 E = none → ∃ Pv : Nat → List D → Mu → Prop, Pv 0 [] (mup μ1 E .hid) ∧ (∀ i acc μ, Pv i acc μ → src μ) ∧
  (∀ i x acc μ, xs[i]? = some x → Pv i acc μ → g x (wipeD ρ vs) μ fun ρ2 μ2 => tt ρ2 μ2 fun b μ3 => if b = true then te ρ2 μ3 fun y μ4 => acc.length < sizeLine ∧ Pv (i + 1) (acc ++ [y]) μ4 else Pv (i + 1) acc μ3) ∧
  ∀ acc μ, Pv xs.length acc μ → Q (.lst acc) (mdel μ E)
def DcR (w : World) (xs : List D) (src : Mu → Prop) (g : DG) (tt : DT) (tk tv : DE) (vs : List Nat) (ρ : Ro) (μ1 : Mu) (Q : DQ) : Prop := ∀ E, μ1 E = none → ∃ Pv : Nat → List (NestedKey × D) → Mu → Prop, Pv 0 [] (mup μ1 E .hid) ∧ (∀ i acc μ, Pv i acc μ → src μ) ∧
  (∀ i x acc μ, xs[i]? = some x → Pv i acc μ → g x (wipeD ρ vs) μ fun ρ2 μ2 => tt ρ2 μ2 fun b μ3 => if b = true then tk ρ2 μ3 fun y μ4 => tv ρ2 μ4 fun z μ5 => ∃ n, y = dn n ∧ nkey n ∧ acc.length < sizeLine ∧ Pv (i + 1) (pt acc n z) μ5 else Pv (i + 1) acc μ3) ∧
  ∀ acc μ, Pv xs.length acc μ → Q (.ref E) (mup μ E (.dN w acc))
def WhR (c : DT) (tb : DS) (D : DEnds) (ρ : Ro) (μ : Mu) : Prop := ∃ W : Nat → Ro → Mu → Prop, (∃ m, W m ρ μ) ∧ ∀ m ρ μ, W m ρ μ →
  c ρ μ fun b μ1 => if b = true then tb { D with nx := fun ρ' μ' => ∃ m', m' < m ∧ W m' ρ' μ', ct := fun ρ' μ' => ∃ m', m' < m ∧ W m' ρ' μ', bk := D.nx } ρ μ1 else D.nx ρ μ1
/-- all that stood stands -/
def Ext (μ μ' : Mu) : Prop := ∀ b o, μ b = some o → μ' b = some o
theorem Ext.refl {μ : Mu} : Ext μ μ := fun _ _ h => h
theorem Ext.hid {μ : Mu} {E : Addr} {u : Ob} (n : μ E = none) : Ext μ (mup μ E u) := fun b o h => by rw [mup_ne fun z => by rw [z, n] at h; cases h]; exact h
theorem Ext.row {μ μ' : Mu} {x : D} {xs : List D} (e : Ext μ μ') (h : rowOf μ x = some xs) : rowOf μ' x = some xs := by
  cases x with
  | ref a =>
    cases q : μ a with
    | none => simp [rowOf, vw, q] at h
    | some o =>
      have q' := e a o q
      simp only [rowOf, vw, q] at h
      simp only [rowOf, vw, q']
      exact h
  | _ => exact h
section
variable {α : Type} {as : List α} {enc : α → D} {src : Mu → Prop} {g : DG} {tb : DS} {D' : DEnds} {ρ : Ro} {μ : Mu} {tt : DT} {te tk tv : DE} {vs : List Nat} {Q : DQ} {w : World}
theorem ForR.map (Pv : List α → Ro → Mu → Prop) (h0 : Pv [] ρ μ) (hsrc : ∀ pre ρ μ, Pv pre ρ μ → src μ)
    (step : ∀ pre a post ρ μ, as = pre ++ a :: post → Pv pre ρ μ → g (enc a) ρ μ fun ρ2 μ2 => tb { D' with nx := Pv (pre ++ [a]), ct := Pv (pre ++ [a]), bk := D'.nx } ρ2 μ2) (fin : ∀ ρ μ, Pv as ρ μ → D'.nx ρ μ) : ForR (as.map enc) src g tb D' ρ μ := by
  refine ⟨fun i ρ μ => Pv (as.take i) ρ μ, by simpa using h0, fun i ρ μ h => hsrc _ _ _ h, fun i x ρ μ hx h => ?_, fun ρ μ h => fin ρ μ (by simpa using h)⟩
  rw [List.getElem?_map] at hx
  obtain ⟨a, ha, rfl⟩ := Option.map_eq_some_iff.mp hx
  have hi := (List.getElem?_eq_some_iff.mp ha).1
  have he := (List.getElem?_eq_some_iff.mp ha).2
  have e1 : as = as.take i ++ a :: as.drop (i + 1) := by
    rw [← he, List.getElem_cons_drop, List.take_append_drop]
  have e2 : as.take (i + 1) = as.take i ++ [a] := by rw [List.take_succ, ha]; rfl
  show g (enc a) ρ μ fun ρ2 μ2 => tb { D' with nx := Pv (as.take (i + 1)), ct := Pv (as.take (i + 1)), bk := D'.nx } ρ2 μ2
  rw [e2]
  exact step _ a _ ρ μ e1 h
theorem LcR.pure (F : α → Option D) (hsrc : ∀ μ', Ext μ μ' → src μ') (step : ∀ a ∈ as, ∀ μ', Ext μ μ' → ∀ (K1 : D → Mu → Prop) (K0 : Mu → Prop), (match F a with | some y => K1 y μ' | none => K0 μ') → g (enc a) (wipeD ρ vs) μ' fun ρ2 μ2 => tt ρ2 μ2 fun b μ3 => if b = true then te ρ2 μ3 K1 else K0 μ3)
    (hl : as.length ≤ sizeLine) (q : Q (.lst (as.filterMap F)) μ) : LcR (as.map enc) src g tt te vs ρ μ Q := by
  intro E nE
  have ex : Ext μ (mup μ E .hid) := Ext.hid nE
  refine ⟨fun i acc μ' => μ' = mup μ E .hid ∧ acc = (as.take i).filterMap F, ⟨rfl, by simp⟩, fun i acc μ' h => h.1 ▸ hsrc _ ex, ?_, ?_⟩
  · rintro i x acc μ' hx ⟨rfl, rfl⟩
    rw [List.getElem?_map] at hx
    obtain ⟨a, ha, rfl⟩ := Option.map_eq_some_iff.mp hx
    have e2 : as.take (i + 1) = as.take i ++ [a] := by rw [List.take_succ, ha]; rfl
    have hlt := (List.getElem?_eq_some_iff.mp ha).1
    refine step a (List.mem_of_getElem? ha) _ ex _ _ ?_
    cases hF : F a with
    | none => exact ⟨rfl, by rw [e2, List.filterMap_append]; simp [hF]⟩
    | some y =>
      refine ⟨?_, rfl, by rw [e2, List.filterMap_append]; simp [hF]⟩
      have := List.length_filterMap_le F (as.take i)
      rw [List.length_take] at this
      omega
  · rintro acc μ' ⟨rfl, rfl⟩
    rw [mdel_mup nE]
    simpa using q
theorem LcR.map (f : α → D) (hsrc : ∀ μ', Ext μ μ' → src μ') (step : ∀ a ∈ as, ∀ μ', Ext μ μ' → ∀ K1 : D → Mu → Prop, K1 (f a) μ' → g (enc a) (wipeD ρ vs) μ' fun ρ2 μ2 => te ρ2 μ2 K1)
    (hl : as.length ≤ sizeLine) (q : Q (.lst (as.map f)) μ) : LcR (as.map enc) src g dYes te vs ρ μ Q := by
  refine LcR.pure (fun a => some (f a)) hsrc (fun a ha μ' ex K1 K0 h => ?_) hl (by rw [List.filterMap_eq_map']; exact q)
  simp only [dYes, if_true]
  exact step a ha μ' ex K1 h
theorem LcR.filter (p : α → Bool) (hsrc : ∀ μ', Ext μ μ' → src μ') (step : ∀ a ∈ as, ∀ μ', Ext μ μ' → ∀ (K1 : D → Mu → Prop) (K0 : Mu → Prop), (if p a = true then K1 (enc a) μ' else K0 μ') → g (enc a) (wipeD ρ vs) μ' fun ρ2 μ2 => tt ρ2 μ2 fun b μ3 => if b = true then te ρ2 μ3 K1 else K0 μ3)
    (hl : as.length ≤ sizeLine) (q : Q (.lst ((as.filter p).map enc)) μ) : LcR (as.map enc) src g tt te vs ρ μ Q := by
  refine LcR.pure (fun a => if p a = true then some (enc a) else none) hsrc (fun a ha μ' ex K1 K0 h => step a ha μ' ex K1 K0 ?_) hl ?_
  · cases hp : p a <;> simpa [hp] using h
  · have e : as.filterMap (fun a => if p a = true then some (enc a) else none) = (as.filter p).map enc := by
      clear q hl step
      induction as with
      | nil => rfl
      | cons x xs ih => cases hp : p x <;> simp [hp, ih]
    rw [e]
    exact q
theorem DcR.map (kf : α → NestedKey) (f : α → D) (hsrc : ∀ μ', Ext μ μ' → src μ') (hk : ∀ a ∈ as, nkey (kf a)) (step : ∀ a ∈ as, ∀ μ', Ext μ μ' → ∀ K1 : D → D → Mu → Prop, K1 (dn (kf a)) (f a) μ' → g (enc a) (wipeD ρ vs) μ' fun ρ2 μ2 => tk ρ2 μ2 fun y μ3 => tv ρ2 μ3 fun z μ4 => K1 y z μ4)
    (hl : as.length ≤ sizeLine) (q : ∀ E, μ E = none → Q (.ref E) (mup μ E (.dN w (pts [] (as.map fun a => (kf a, f a)))))) : DcR w (as.map enc) src g dYes tk tv vs ρ μ Q := by
  intro E nE
  have ex : Ext μ (mup μ E .hid) := Ext.hid nE
  refine ⟨fun i acc μ' => μ' = mup μ E .hid ∧ acc = pts [] ((as.take i).map fun a => (kf a, f a)), ⟨rfl, by simp [pts]⟩, fun i acc μ' h => h.1 ▸ hsrc _ ex, ?_, ?_⟩
  · rintro i x acc μ' hx ⟨rfl, rfl⟩
    rw [List.getElem?_map] at hx
    obtain ⟨a, ha, rfl⟩ := Option.map_eq_some_iff.mp hx
    have e2 : as.take (i + 1) = as.take i ++ [a] := by rw [List.take_succ, ha]; rfl
    have hlt := (List.getElem?_eq_some_iff.mp ha).1
    simp only [dYes, if_true]
    refine step a (List.mem_of_getElem? ha) _ ex _ ⟨kf a, rfl, hk a (List.mem_of_getElem? ha), ?_, rfl, ?_⟩
    · have : ∀ (l : List (NestedKey × D)) (acc : List (NestedKey × D)), (pts acc l).length ≤ acc.length + l.length := by
        intro l
        induction l with
        | nil => intro acc; simp [pts]
        | cons y ys ih =>
          intro acc
          have h1 := ih (pt acc y.1 y.2)
          have h2 := len_pt acc y.1 y.2
          simp only [pts, List.foldl_cons, List.length_cons] at h1 ⊢
          omega
      have := this ((as.take i).map fun a => (kf a, f a)) []
      rw [List.length_map, List.length_take] at this
      simp only [List.length_nil, Nat.zero_add] at this
      omega
    · rw [e2, List.map_append]
      simp [pts, List.foldl_append]
  · rintro acc μ' ⟨rfl, rfl⟩
    have e : mup (mup μ E .hid) E (.dN w (pts [] ((as.take (as.map enc).length).map fun a => (kf a, f a)))) = mup μ E (.dN w (pts [] (as.map fun a => (kf a, f a)))) := by
      rw [List.length_map, List.take_length]
      funext b
      unfold mup
      split <;> rfl
    rw [e]
    exact q E nE
end
/-! ### rows -/
section
variable {nx : Ro → Mu → Prop} {rt : DQ} {bk ct : Ro → Mu → Prop} {ρ : Ro} {μ : Mu} {Q : DQ} {QL : List D → Mu → Prop} {R : Ro → Mu → Prop} {te to ti ta tv ty : DE} {tA : DA} {g : DG} {tb : DS} {tt tc : DT} {d x : D} {w : World} {vs : List Nat} {tk : DE}
theorem s_for {tI : DI} : dFor tI g tb ⟨nx, rt, bk, ct⟩ ρ μ = tI ρ μ fun xs src μ1 => ForR xs src g tb ⟨nx, rt, bk, ct⟩ ρ μ1 := rfl
theorem s_while : dWhile tc tb ⟨nx, rt, bk, ct⟩ ρ μ = WhR tc tb ⟨nx, rt, bk, ct⟩ ρ μ := rfl
theorem s_lc {tI : DI} : dLc tI g tt te vs ρ μ Q = tI ρ μ fun xs src μ1 => LcR xs src g tt te vs ρ μ1 Q := rfl
theorem s_dc {tI : DI} : dNDc w tI g tt tk tv vs ρ μ Q = tI ρ μ fun xs src μ1 => DcR w xs src g tt tk tv vs ρ μ1 Q := rfl
theorem s_rowA {RR : List D → (Mu → Prop) → Mu → Prop} : dRowA te ρ μ RR = te ρ μ fun x μ1 => ∃ xs, rowOf μ1 x = some xs ∧ RR xs (fun μ => rowOf μ x = some xs) μ1 := rfl
def bRng (ds : List D) (μ : Mu) (RR : List D → (Mu → Prop) → Mu → Prop) : Prop := match ds with
  | [.int j] => -(2 ^ 62) ≤ j ∧ j < 2 ^ 62 ∧ RR (rng 0 j.toNat) (fun _ => True) μ
  | _ => False
theorem s_rng {RR : List D → (Mu → Prop) → Mu → Prop} : dRng1 tA ρ μ RR = tA ρ μ fun ds μ1 => bRng ds μ1 RR := rfl
theorem s_bRng {RR : List D → (Mu → Prop) → Mu → Prop} {k : Int} : bRng [.int k] μ RR = (-(2 ^ 62) ≤ k ∧ k < 2 ^ 62 ∧ RR (rng 0 k.toNat) (fun _ => True) μ) := rfl
theorem s_nkeys {RR : List D → (Mu → Prop) → Mu → Prop} : dNKeys w te ρ μ RR = te ρ μ fun x μ1 => ∃ c od kvs, x = .ref c ∧ μ1 c = some (.dL od w kvs) ∧ RR (kvs.map fun kv => dn kv.1) (fun μ => μ c = some (.dL od w kvs)) μ1 := rfl
theorem s_nsub : dNSub w to ti d ρ μ R = to ρ μ fun x μ1 => ti ρ μ1 fun i μ2 => gNSet w x i d μ2 fun μ3 => R ρ μ3 := rfl
theorem s_bm {C : D → Mu → Prop} {gg : D → List D → Mu → DQ → Prop} : dBM C gg to tA ρ μ Q = to ρ μ fun x μ1 => C x μ1 ∧ tA ρ μ1 fun ds μ2 => gg x ds μ2 Q := rfl
theorem s_nnew : dNNew w ρ μ Q = ∀ p, μ p = none → Q (.ref p) (mup μ p (.dN w [])) := rfl
theorem s_dnew : dDNew ρ μ Q = ∀ p, μ p = none → Q (.ref p) (mup μ p (.dK [])) := rfl
theorem s_star : dStar te tA ρ μ QL = te ρ μ fun x μ1 => ∃ xs, rowOf μ1 x = some xs ∧ tA ρ μ1 fun ys μ2 => QL (xs ++ ys) μ2 := rfl
theorem s_dput : dDPut to ty tv ⟨nx, rt, bk, ct⟩ ρ μ = tv ρ μ fun d μ1 => to ρ μ1 fun x μ2 => ty ρ μ2 fun y μ3 => gDSet x y d μ3 fun μ4 => nx ρ μ4 := rfl
theorem s_lock {t : DE} : dLock w t ρ μ Q = ∃ c kvs, μ c = some (.dN w kvs) ∧ ∀ od, t ρ (mup μ c (.dL od w kvs)) fun r μ2 => μ2 c = some (.dL od w kvs) ∧ Q r (mup μ2 c (.dN w kvs)) := rfl
theorem s_pairs0 {QP : List (D × D) → Mu → Prop} : dPairs [] ρ μ QP = QP [] μ := rfl
theorem s_pairs1 {QP : List (D × D) → Mu → Prop} {trs : List (DE × DE)} : dPairs ((tk, tv) :: trs) ρ μ QP = tk ρ μ fun x μ1 => tv ρ μ1 fun y μ2 => dPairs trs ρ μ2 fun ps μ3 => QP ((x, y) :: ps) μ3 := rfl
theorem s_disp {trs : List (DE × DE)} : dDisp trs ρ μ Q = ∀ p, μ p = none → dPairs trs ρ (mup μ p .hid) fun qs μ1 => ∃ kvs, keysD qs = some kvs ∧ kvs.length ≤ 15 ∧ Q (.ref p) (mup μ1 p (.dK (mergeD [] kvs))) := rfl
theorem row_l {xs : List D} : rowOf μ (.lst xs) = some xs := rfl
theorem row_t {xs : List D} : rowOf μ (.tup xs) = some xs := rfl
theorem row_s {xs : List D} : rowOf μ (.sq xs) = some xs := rfl
theorem row_r {c : Addr} {xs : List D} (h : μ c = some (.lst xs)) : rowOf μ (.ref c) = some xs := by unfold rowOf; rw [vw_ref h]
theorem gMin2_int {i j : Int} : gMin2 [.int i, .int j] μ Q = Q (.int (if j < i then j else i)) μ := rfl
theorem gInt_int {i : Int} : gInt [.int i] μ Q = Q (.int i) μ := rfl
theorem gInt_bl {z : Bool} : gInt [.bl z] μ Q = Q (.int (if z = true then 1 else 0)) μ := rfl
theorem gNIx_at {c : Addr} {kvs : List (NestedKey × D)} {n : NestedKey} {v : D} (h : μ c = some (.dN w kvs)) (nk : nkey n) (hv : lk kvs n = some v) : gNIx w (.ref c) (dn n) μ Q ↔ Q v μ := by
  constructor
  · rintro ⟨kvs', n', v', ⟨c', e1, e2⟩ | e1, e3, _, e5, q⟩
    rotate_left
    · cases e1
    cases e1
    rw [h] at e2
    cases e2
    rw [dn_inj e3, e5] at hv
    cases hv
    exact q
  · exact fun q => ⟨kvs, n, v, .inl ⟨c, rfl, h⟩, rfl, nk, hv, q⟩
end
end Dl

/-! Pure defs: what they hand back as a Lean function on data (Res); a def's own lists and dicts are values of its slots. -/
namespace Dl
open PySem PySem.Spec PyProof.Rows L2
inductive Res (α : Type) where
  | ok (a : α) | er (C : Addr) (fs : List (Str × D)) | no
section
variable {α β γ : Type}
def Res.bind (r : Res α) (f : α → Res β) : Res β := match r with
  | .ok a => f a
  | .er C fs => .er C fs
  | .no => .no
def Res.of : Option α → Res α
  | some a => .ok a
  | none => .no
/-- where nothing may be raised -/
def Res.tot : Res α → Res α
  | .ok a => .ok a
  | _ => .no
def RQ (E : Addr → List (Str × D) → Prop) (r : Res α) (P : α → Prop) : Prop := match r with
  | .ok a => P a
  | .er C fs => E C fs
  | .no => False
theorem RQ.bind {E : Addr → List (Str × D) → Prop} {r : Res α} {f : α → Res β} {P : β → Prop} (h : RQ E (r.bind f) P) : RQ E r fun a => RQ E (f a) P := by
  cases r <;> exact h
theorem RQ.mono {E : Addr → List (Str × D) → Prop} {r : Res α} {P P' : α → Prop} (h : RQ E r P) (k : ∀ a, P a → P' a) : RQ E r P' := by
  cases r with
  | ok a => exact k a h
  | er C fs => exact h
  | no => exact h
theorem RQ.of {E : Addr → List (Str × D) → Prop} {r : Option α} {P : α → Prop} (h : RQ E (Res.of r) P) : ∃ a, r = some a ∧ P a := by
  cases r with
  | none => exact h.elim
  | some a => exact ⟨a, rfl, h⟩
theorem RQ.tot {E E' : Addr → List (Str × D) → Prop} {r : Res α} {P : α → Prop} (h : RQ E r.tot P) : RQ E' r P := by
  cases r with
  | ok a => exact h
  | er C fs => exact h.elim
  | no => exact h
end
inductive SR where
  | nx (ρ : Ro) | rt (d : D) | bk (ρ : Ro) | ct (ρ : Ro) | er (C : Addr) (fs : List (Str × D)) | no
/-- what a thing that changes is worth -/
def obD : Ob → Option D
  | .lst xs => some (.lst xs)
  | .dK kvs => some (.dK kvs)
  | .dN w kvs => some (.dN w kvs)
  | .ins C fs => some (.obj C fs)
  | _ => none
/-- a pure def's walk: the store at its entry, the slots of what it changes, what is wanted of errors -/
structure Pc where
  μ0 : Mu
  O : List Nat
  E : Addr → List (Str × D) → Prop
  self : Option Addr := none
/-- slots above and below: those of O hold things that change, made since the entry -/
structure Own (Y : Pc) (ρ ρc : Ro) (μ : Mu) : Prop where
  keep : ∀ b o, Y.μ0 b = some o → μ b = some o
  len : ρc.length = ρ.length
  val : ∀ i, i ∉ Y.O → slot ρc i = slot ρ i
  own : ∀ i ∈ Y.O, ∀ d, slot ρ i = some d → ∃ a o, slot ρc i = some (.ref a) ∧ μ a = some o ∧ obD o = some d ∧ Y.μ0 a = none
  sep : ∀ i ∈ Y.O, ∀ j ∈ Y.O, i ≠ j → slot ρ i ≠ none → slot ρ j ≠ none → slot ρc i ≠ slot ρc j
  me : ∀ a, Y.self = some a → 0 ∈ Y.O ∧ slot ρc 0 = some (.ref a)
/-- a value, or a thing that changes, seen as it stands -/
def Vw (Y : Pc) (μ : Mu) (d' d : D) : Prop := d' = d ∨ ∃ a o, d' = .ref a ∧ μ a = some o ∧ obD o = some d ∧ Y.μ0 a = none
def dV (Y : Pc) (f : Ro → Res D) : DE := fun ρc μ Q => ∃ ρ, Own Y ρ ρc μ ∧ RQ Y.E (f ρ) fun d => Q d μ
def dVL (Y : Pc) (f : Ro → Res D) : DE := fun ρc μ Q => ∃ ρ, Own Y ρ ρc μ ∧ RQ Y.E (f ρ) fun d => ∀ d', Vw Y μ d' d → Q d' μ
def dVT (Y : Pc) (f : Ro → Res Bool) : DT := fun ρc μ Q => ∃ ρ, Own Y ρ ρc μ ∧ RQ Y.E (f ρ) fun b => Q b μ
def dVA (Y : Pc) (f : Ro → Res (List D)) : DA := fun ρc μ Q => ∃ ρ, Own Y ρ ρc μ ∧ RQ Y.E (f ρ) fun ds => Q ds μ
def dVO (Y : Pc) (f : Ro → Res (Option Int)) : DO := fun ρc μ Q => ∃ ρ, Own Y ρ ρc μ ∧ RQ Y.E (f ρ) fun o => Q o μ
def dVI (Y : Pc) (f : Ro → Res (List D)) : DI := fun ρc μ R => ∃ ρ, Own Y ρ ρc μ ∧ RQ Y.E (f ρ) fun xs => xs.length ≤ sizeLine → ∀ src : Mu → Prop, (∀ μ', src μ') → R xs src μ
/-- of a thing that changes, for comprehensions -/
def dVJ (Y : Pc) (f : Ro → Res (List D)) : DI := fun ρc μ R => ∃ ρ, Own Y ρ ρc μ ∧ RQ Y.E (f ρ) fun xs => xs.length ≤ sizeLine → ∀ src : Mu → Prop, (∀ μ', Ext μ μ' → src μ') → R xs src μ
def dVG (Y : Pc) (g : D → Ro → Option Ro) : DG := fun d ρc μ Q => ∃ ρ ρ', Own Y ρ ρc μ ∧ g d ρ = some ρ' ∧ ∀ ρc', Own Y ρ' ρc' μ → Q ρc' μ
def dVGs (Y : Pc) (g : List D → Ro → Option Ro) : DGs := fun d ρc μ Q => ∃ ρ ρ', Own Y ρ ρc μ ∧ g d ρ = some ρ' ∧ ∀ ρc', Own Y ρ' ρc' μ → Q ρc' μ
def SQ (Y : Pc) (r : SR) (D' : DEnds) : Prop := match r with
  | .nx ρ' => ∀ ρc' μ', Own Y ρ' ρc' μ' → D'.nx ρc' μ'
  | .rt d => ∀ d' μ', Vw Y μ' d' d → (∀ b o, Y.μ0 b = some o → μ' b = some o) → D'.rt d' μ'
  | .bk ρ' => ∀ ρc' μ', Own Y ρ' ρc' μ' → D'.bk ρc' μ'
  | .ct ρ' => ∀ ρc' μ', Own Y ρ' ρc' μ' → D'.ct ρc' μ'
  | .er C fs => Y.E C fs
  | .no => False
def dVS (Y : Pc) (s : Ro → SR) : DS := fun D' ρc μ => ∃ ρ, Own Y ρ ρc μ ∧ SQ Y (s ρ) D'
/-- what a pure def promises -/
def spP (m : List D → Res D) : SpX := fun ds μ Q Ed => RQ (fun C fs => ∀ dd, μ dd = none → Ed C dd (mup μ dd (.xd fs))) (m ds) fun d => Q d μ
/-- what is wanted at the place of an error -/
def EdY (Y : Pc) : DX := fun C dd _ μ' => ∃ fs, μ' dd = some (.xd fs) ∧ Y.μ0 dd = none ∧ (∀ b o, Y.μ0 b = some o → μ' b = some o) ∧ Y.E C fs
/-! ### slots -/
theorem slot_eq : ∀ {ρ : Ro} {i : Nat}, slot ρ i = (ρ[i]?).join
  | [], i => by simp [slot]
  | x :: r, 0 => by simp [slot]
  | x :: r, i + 1 => by simp [slot, slot_eq (ρ := r) (i := i)]
theorem slot_set {ρ : Ro} {i j : Nat} {o : Option D} (h : j < ρ.length) : slot (ρ.set j o) i = if i = j then o else slot ρ i := by
  rw [slot_eq, slot_eq, List.getElem?_set]
  by_cases e : i = j
  · subst e; rw [if_pos rfl, if_pos rfl, if_pos h]; rfl
  · rw [if_neg fun z => e z.symm, if_neg e]
theorem slot_out {ρ : Ro} {i : Nat} (h : ρ.length ≤ i) : slot ρ i = none := by rw [slot_eq, List.getElem?_eq_none h]; rfl
section
variable {Y : Pc} {ρ ρc : Ro} {μ : Mu} {d : D} {i : Nat}
/-- a value is put into a slot that holds values -/
theorem Own.set (w : Own Y ρ ρc μ) (hi : i ∉ Y.O) : Own Y (ρ.set i (some d)) (ρc.set i (some d)) μ := by
  by_cases hl : i < ρ.length
  · have hlc : i < ρc.length := by rw [w.len]; exact hl
    have ne : ∀ {j}, j ∈ Y.O → j ≠ i := fun hj e => hi (e ▸ hj)
    refine ⟨w.keep, by simp [w.len], fun j hj => ?_, fun j hj e he => ?_, fun j hj k hk => ?_, fun a ha => ?_⟩
    rotate_left 3
    · obtain ⟨h0, h1⟩ := w.me a ha
      exact ⟨h0, by rw [slot_set hlc, if_neg (ne h0)]; exact h1⟩
    · rw [slot_set hl, slot_set hlc]
      split
      · rfl
      · exact w.val j hj
    · rw [slot_set hl, if_neg (ne hj)] at he
      rw [slot_set hlc, if_neg (ne hj)]
      exact w.own j hj e he
    · rw [slot_set hl, slot_set hl, slot_set hlc, slot_set hlc, if_neg (ne hj), if_neg (ne hk), if_neg (ne hj), if_neg (ne hk)]
      exact w.sep j hj k hk
  · rw [List.set_eq_of_length_le (by omega), List.set_eq_of_length_le (by rw [w.len]; omega)]
    exact w
/-- a new thing that changes is put into a slot for such -/
theorem Own.born (w : Own Y ρ ρc μ) (hi : i ∈ Y.O) {p : Addr} {o : Ob} (n : μ p = none) (e : obD o = some d) (hl : i < ρ.length) (hs : (Y.self.isNone || i != 0) = true) : Own Y (ρ.set i (some d)) (ρc.set i (some (.ref p))) (mup μ p o) := by
  have hlc : i < ρc.length := by rw [w.len]; exact hl
  have n0 : Y.μ0 p = none := by
    cases q : Y.μ0 p with
    | none => rfl
    | some u => rw [w.keep p u q] at n; cases n
  have ne : ∀ {b o}, μ b = some o → b ≠ p := fun h z => by rw [z, n] at h; cases h
  refine ⟨fun b o' h => by rw [mup_ne (ne (w.keep b o' h))]; exact w.keep b o' h, by simp [w.len], fun j hj => ?_, fun j hj u hu => ?_, fun j hj k hk hne => ?_, fun a ha => ?_⟩
  rotate_left 3
  · obtain ⟨h0, h1⟩ := w.me a ha
    refine ⟨h0, ?_⟩
    have : (0 : Nat) ≠ i := fun z => by rw [ha, ← z] at hs; simp at hs
    rw [slot_set hlc, if_neg this]
    exact h1
  · have : j ≠ i := fun z => hj (z ▸ hi)
    rw [slot_set hl, slot_set hlc, if_neg this, if_neg this]
    exact w.val j hj
  · rw [slot_set hl] at hu
    rw [slot_set hlc]
    by_cases c : j = i
    · rw [if_pos c] at hu ⊢
      cases hu
      exact ⟨p, o, rfl, mup_same, e, n0⟩
    · rw [if_neg c] at hu ⊢
      obtain ⟨a, o', h1, h2, h3, h4⟩ := w.own j hj u hu
      exact ⟨a, o', h1, by rw [mup_ne (ne h2)]; exact h2, h3, h4⟩
  · rw [slot_set hl, slot_set hl, slot_set hlc, slot_set hlc]
    have fr : ∀ {m}, m ∈ Y.O → slot ρ m ≠ none → slot ρc m ≠ some (.ref p) := fun {m} hm h z => by
      cases q : slot ρ m with
      | none => exact h q
      | some u =>
        obtain ⟨a, o', h1, h2, _⟩ := w.own m hm u q
        rw [z] at h1
        cases h1
        exact ne h2 rfl
    by_cases cj : j = i
    · rw [if_pos cj, if_pos cj, if_neg fun z => hne (cj.trans z.symm), if_neg fun z => hne (cj.trans z.symm)]
      exact fun _ h z => fr hk h z.symm
    · rw [if_neg cj, if_neg cj]
      by_cases ck : k = i
      · rw [if_pos ck, if_pos ck]
        exact fun h _ z => fr hj h z
      · rw [if_neg ck, if_neg ck]
        exact w.sep j hj k hk hne
/-- a thing that changes changes -/
theorem Own.turn (w : Own Y ρ ρc μ) (hi : i ∈ Y.O) {a : Addr} {o' : Ob} {u : D} (hu : slot ρ i = some u) (ha : slot ρc i = some (.ref a)) (e : obD o' = some d) : Own Y (ρ.set i (some d)) ρc (mup μ a o') := by
  have hl : i < ρ.length := by
    by_cases c : i < ρ.length
    · exact c
    · rw [slot_out (by omega)] at hu; cases hu
  obtain ⟨a', o, h1, h2, h3, h4⟩ := w.own i hi u hu
  rw [ha] at h1
  cases h1
  have oth : ∀ {m b}, m ∈ Y.O → m ≠ i → slot ρ m ≠ none → slot ρc m = some (.ref b) → b ≠ a := fun hm hne hn hb z => by
    refine w.sep _ hm i hi hne hn (by rw [hu]; simp) ?_
    rw [hb, ha, z]
  refine ⟨fun b x h => by rw [mup_ne fun z => by rw [z, h4] at h; cases h]; exact w.keep b x h, by simp [w.len], fun j hj => ?_, fun j hj v hv => ?_, fun j hj k hk hne => ?_, w.me⟩
  · have : j ≠ i := fun z => hj (z ▸ hi)
    rw [slot_set hl, if_neg this]
    exact w.val j hj
  · rw [slot_set hl] at hv
    by_cases c : j = i
    · rw [if_pos c] at hv
      cases hv
      exact ⟨a, o', by rw [c]; exact ha, mup_same, e, h4⟩
    · rw [if_neg c] at hv
      obtain ⟨b, x, k1, k2, k3, k4⟩ := w.own j hj v hv
      exact ⟨b, x, k1, by rw [mup_ne (oth hj c (by rw [hv]; simp) k1)]; exact k2, k3, k4⟩
  · rw [slot_set hl, slot_set hl]
    intro hj' hk'
    refine w.sep j hj k hk hne ?_ ?_
    · by_cases c : j = i
      · rw [c, hu]; simp
      · rwa [if_neg c] at hj'
    · by_cases c : k = i
      · rw [c, hu]; simp
      · rwa [if_neg c] at hk'
/-- the store grows -/
theorem Own.more (w : Own Y ρ ρc μ) {μ' : Mu} (h : Ext μ μ') : Own Y ρ ρc μ' :=
  ⟨fun b o e => h b o (w.keep b o e), w.len, w.val, fun i hi d hd => let ⟨a, o, h1, h2, h3, h4⟩ := w.own i hi d hd; ⟨a, o, h1, h a o h2, h3, h4⟩, w.sep, w.me⟩
theorem Own.forget (w : Own Y ρ ρc μ) (i : Nat) (hs : (Y.self.isNone || i != 0) = true) : Own Y (ρ.set i none) (ρc.set i none) μ := by
  by_cases hl : i < ρ.length
  · have hlc : i < ρc.length := by rw [w.len]; exact hl
    refine ⟨w.keep, by simp [w.len], fun j hj => ?_, fun j hj e he => ?_, fun j hj k hk hne => ?_, fun a ha => ?_⟩
    rotate_left 3
    · obtain ⟨h0, h1⟩ := w.me a ha
      refine ⟨h0, ?_⟩
      have : (0 : Nat) ≠ i := fun z => by rw [ha, ← z] at hs; simp at hs
      rw [slot_set hlc, if_neg this]
      exact h1
    · rw [slot_set hl, slot_set hlc]
      split
      · rfl
      · exact w.val j hj
    · rw [slot_set hl] at he
      split at he
      · cases he
      · rename_i c
        rw [slot_set hlc, if_neg c]
        exact w.own j hj e he
    · rw [slot_set hl, slot_set hl, slot_set hlc, slot_set hlc]
      by_cases cj : j = i
      · rw [if_pos cj]; exact fun z => absurd rfl z
      · rw [if_neg cj, if_neg cj]
        by_cases ck : k = i
        · rw [if_pos ck]; exact fun _ z => absurd rfl z
        · rw [if_neg ck, if_neg ck]; exact w.sep j hj k hk hne
  · rw [List.set_eq_of_length_le (by omega), List.set_eq_of_length_le (by rw [w.len]; omega)]
    exact w
theorem Own.wipe (w : Own Y ρ ρc μ) : ∀ vs : List Nat, (Y.self.isNone || vs.all (· != 0)) = true → Own Y (wipeD ρ vs) (wipeD ρc vs) μ
  | [], _ => w
  | v :: vs, hs => (Own.wipe w vs (by cases h : Y.self.isNone <;> simp_all)).forget v (by cases h : Y.self.isNone <;> simp_all)
/-- nothing may be raised -/
def Pc.calm (Y : Pc) : Pc := ⟨Y.μ0, Y.O, fun _ _ => False, Y.self⟩
theorem Own.calm {Y : Pc} (w : Own Y ρ ρc μ) : Own Y.calm ρ ρc μ := ⟨w.keep, w.len, w.val, w.own, w.sep, w.me⟩
theorem Own.uncalm {Y : Pc} (w : Own Y.calm ρ ρc μ) : Own Y ρ ρc μ := ⟨w.keep, w.len, w.val, w.own, w.sep, w.me⟩
end
/-! ### weakening -/
section
variable {X : Cx} {G : Gh} {Y : Pc} {e a b o : Expr} {es : List Expr} {pos p : Pos} {f fa fb : Ro → Res D}
theorem PD.mono {t t' : DE} (h : PD X G e t) (k : ∀ ρ μ Q, t' ρ μ Q → t ρ μ Q) : PD X G e t' := by
  obtain ⟨te, p, fn⟩ := h.ex
  exact ⟨te, p, fun o q kk => fn o (k _ _ _ q) kk⟩
theorem PDT.mono {t t' : DT} (h : PDT X G e t) (k : ∀ ρ μ Q, t' ρ μ Q → t ρ μ Q) : PDT X G e t' := by
  obtain ⟨te, p, fn⟩ := h.ex
  exact ⟨te, p, fun o q kk => fn o (k _ _ _ q) kk⟩
theorem PDW.mono {t t' : DT} (h : PDW X G e t) (k : ∀ ρ μ Q, t' ρ μ Q → t ρ μ Q) : PDW X G e t' := by
  obtain ⟨te, p, fn⟩ := h.ex
  exact ⟨te, p, fun o q kk => fn o (k _ _ _ q) kk⟩
theorem PDA.mono {t t' : DA} (h : PDA X G es t) (k : ∀ ρ μ Q, t' ρ μ Q → t ρ μ Q) : PDA X G es t' := by
  obtain ⟨te, p, fn⟩ := h.ex
  exact ⟨te, p, fun o q kk => fn o (k _ _ _ q) kk⟩
theorem PDK.mono {ks : List Keyword} {t t' : DA} (h : PDK X G ks t) (k : ∀ ρ μ Q, t' ρ μ Q → t ρ μ Q) : PDK X G ks t' := by
  obtain ⟨te, p, fn⟩ := h.ex
  exact ⟨te, p, fun o q kk => fn o (k _ _ _ q) kk⟩
theorem PDI.mono {tg : Expr} {t t' : DI} (h : PDI X G tg e t) (k : ∀ ρ μ R, t' ρ μ R → t ρ μ R) : PDI X G tg e t' := by
  obtain ⟨te, p, fn⟩ := h.ex
  exact ⟨te, p, fun o q kk => fn o (k _ _ _ q) kk⟩
theorem PDO.mono {eo : Option Expr} {t t' : DO} (h : PDO X G eo t) (k : ∀ ρ μ R, t' ρ μ R → t ρ μ R) : PDO X G eo t' := by
  obtain ⟨te, p, fn⟩ := h.ex
  exact ⟨te, p, fun o q kk => fn o (k _ _ _ q) kk⟩
theorem PDG.mono {t t' : DG} (h : PDG X G e t) (k : ∀ d ρ μ R, t' d ρ μ R → t d ρ μ R) : PDG X G e t' := by
  obtain ⟨te, p, fn⟩ := h.ex
  exact ⟨te, p, fun o hd q kk => fn o hd (k _ _ _ _ q) kk⟩
theorem PDGs.mono {t t' : DGs} (h : PDGs X G es t) (k : ∀ d ρ μ R, t' d ρ μ R → t d ρ μ R) : PDGs X G es t' := by
  obtain ⟨te, p, fn⟩ := h.ex
  exact ⟨te, p, fun o hd q kk => fn o hd (k _ _ _ _ q) kk⟩
theorem PDS.mono {st : Stmt} {t t' : DS} (h : PDS X G st t) (k : ∀ D ρ μ, t' D ρ μ → t D ρ μ) : PDS X G st t' := by
  obtain ⟨te, p, fn⟩ := h.ex
  exact ⟨te, p, fun o q kk => fn o (k _ _ _ q) kk⟩
theorem PDSs.mono {st : List Stmt} {t t' : DS} (h : PDSs X G st t) (k : ∀ D ρ μ, t' D ρ μ → t D ρ μ) : PDSs X G st t' := by
  obtain ⟨te, p, fn⟩ := h.ex
  exact ⟨te, p, fun o q kk => fn o (k _ _ _ q) kk⟩
theorem PD.l (h : PD X G e (dV Y f)) : PD X G e (dVL Y f) := h.mono fun ρ μ Q ⟨ρ', w, q⟩ => ⟨ρ', w, q.mono fun d k => k d (.inl rfl)⟩
/-! ### names, constants -/
def vVar (i : Nat) : Ro → Res D := fun ρ => Res.of (slot ρ i)
def vC (d : D) : Ro → Res D := fun _ => .ok d
theorem pv_var (i : Nat) {x : Str} (hO : Y.O.contains i = false := by rfl) (hN : X.N[i]? = some x := by rfl) (hv : Vis X.env.scope x := by first | exact Or.inl rfl | exact Or.inr (Or.inl rfl) | exact Or.inr (Or.inr rfl)) (hd : (x == ("__debug__" : Str)) = false := by decide)
    (hcd : (x == ("__classdict__" : Str)) = false := by decide) : PD X G (.Name x pos) (dV Y (vVar i)) := (pd_var i hN hv hd hcd).mono fun ρc μ Q ⟨ρ, w, q⟩ => by
  obtain ⟨d, e, q⟩ := q.of
  unfold dVar
  rw [w.val i (by simpa using hO), e]
  exact q
theorem pv_own (i : Nat) {x : Str} (hO : Y.O.contains i = true := by rfl) (hN : X.N[i]? = some x := by rfl) (hv : Vis X.env.scope x := by first | exact Or.inl rfl | exact Or.inr (Or.inl rfl) | exact Or.inr (Or.inr rfl)) (hd : (x == ("__debug__" : Str)) = false := by decide)
    (hcd : (x == ("__classdict__" : Str)) = false := by decide) : PD X G (.Name x pos) (dVL Y (vVar i)) := (pd_var i hN hv hd hcd).mono fun ρc μ Q ⟨ρ, w, q⟩ => by
  obtain ⟨d, e, q⟩ := q.of
  obtain ⟨a, o, h1, h2, h3, h4⟩ := w.own i (by simpa using hO) d e
  unfold dVar
  rw [h1]
  exact q _ (.inr ⟨a, o, rfl, h2, h3, h4⟩)
theorem pv_k {d : D} (h : PD X G e (dC d)) : PD X G e (dV Y (vC d)) := h.mono fun ρc μ Q ⟨ρ, w, q⟩ => q
/-! ### operators -/
def vOp (v : D → D → Option D) (fa fb : Ro → Res D) : Ro → Res D := fun ρ => (fa ρ).bind fun x => (fb ρ).bind fun y => Res.of (v x y)
def vUn (v : D → Option D) (fa : Ro → Res D) : Ro → Res D := fun ρ => (fa ρ).bind fun x => Res.of (v x)
def Op2 (v : D → D → Option D) (g : G2) : Prop := ∀ {x y d μ Q}, v x y = some d → Q d μ → g x y μ Q
def Op2L (v : D → D → Option D) (g : G2) : Prop := ∀ {Y x y x' y' d μ Q}, Vw Y μ x' x → Vw Y μ y' y → v x y = some d → Q d μ → g x' y' μ Q
theorem dV_op {v : D → D → Option D} {g : G2} (k : Op2 v g) {ρc : Ro} {μ : Mu} {Q : DQ} (h : dV Y (vOp v fa fb) ρc μ Q) : dOp g (dV Y fa) (dV Y fb) ρc μ Q := by
  obtain ⟨ρ, w, q⟩ := h
  refine ⟨ρ, w, (RQ.bind q).mono fun x q => ⟨ρ, w, (RQ.bind q).mono fun y q => ?_⟩⟩
  obtain ⟨d, e, q⟩ := q.of
  exact k e q
theorem dV_opL {v : D → D → Option D} {g : G2} (k : Op2L v g) {ρc : Ro} {μ : Mu} {Q : DQ} (h : dV Y (vOp v fa fb) ρc μ Q) : dOp g (dVL Y fa) (dVL Y fb) ρc μ Q := by
  obtain ⟨ρ, w, q⟩ := h
  refine ⟨ρ, w, (RQ.bind q).mono fun x q x' vx => ⟨ρ, w, (RQ.bind q).mono fun y q y' vy => ?_⟩⟩
  obtain ⟨d, e, q⟩ := q.of
  exact k vx vy e q
theorem dV_un {v : D → Option D} {g : D → Mu → DQ → Prop} (k : ∀ {x d μ Q}, v x = some d → Q d μ → g x μ Q) {ρc : Ro} {μ : Mu} {Q : DQ} (h : dV Y (vUn v fa) ρc μ Q) : dUn g (dV Y fa) ρc μ Q := by
  obtain ⟨ρ, w, q⟩ := h
  refine ⟨ρ, w, (RQ.bind q).mono fun x q => ?_⟩
  obtain ⟨d, e, q⟩ := q.of
  exact k e q
theorem dV_unL {v : D → Option D} {g : D → Mu → DQ → Prop} (k : ∀ {Y x x' d μ Q}, Vw Y μ x' x → v x = some d → Q d μ → g x' μ Q) {ρc : Ro} {μ : Mu} {Q : DQ} (h : dV Y (vUn v fa) ρc μ Q) : dUn g (dVL Y fa) ρc μ Q := by
  obtain ⟨ρ, w, q⟩ := h
  refine ⟨ρ, w, (RQ.bind q).mono fun x q x' vx => ?_⟩
  obtain ⟨d, e, q⟩ := q.of
  exact k vx e q
theorem dVT_op {v : D → D → Option Bool} {g : G2} (k : ∀ {Y x y x' y' z μ} {Q : DQ}, Vw Y μ x' x → Vw Y μ y' y → v x y = some z → Q (.bl z) μ → g x' y' μ Q) {ρc : Ro} {μ : Mu} {Q : Bool → Mu → Prop}
    (h : dVT Y (fun ρ => (fa ρ).bind fun x => (fb ρ).bind fun y => Res.of (v x y)) ρc μ Q) : dB (dOp g (dVL Y fa) (dVL Y fb)) ρc μ Q := by
  obtain ⟨ρ, w, q⟩ := h
  refine ⟨ρ, w, (RQ.bind q).mono fun x q x' vx => ⟨ρ, w, (RQ.bind q).mono fun y q y' vy => ?_⟩⟩
  obtain ⟨d, e, q⟩ := q.of
  exact k vx vy e q
end
end Dl

/-! Pure expressions: operators, comparisons, built-ins. -/
namespace Dl
open PySem PySem.Spec PyProof.Rows L2
/-! ### what is seen -/
section
variable {Y : Pc} {μ : Mu} {x' x : D} {xs : List D}
theorem obD_inv {o : Ob} {d : D} (h : obD o = some d) : (∃ xs, o = .lst xs ∧ d = .lst xs) ∨ (∃ kvs, o = .dK kvs ∧ d = .dK kvs) ∨ (∃ w kvs, o = .dN w kvs ∧ d = .dN w kvs) ∨ ∃ C fs, o = .ins C fs ∧ d = .obj C fs := by
  cases o <;> simp [obD] at h <;> subst h <;> simp
/-- neither a place nor a dict -/
def nice : D → Bool
  | .ref _ => false | .dK _ => false | .dN _ _ => false | .set _ _ => false | .obj _ _ => false | _ => true
theorem Vw.vw (h : Vw Y μ x' x) (n : nice x = true) : vw μ x' = x := by
  rcases h with rfl | ⟨a, o, rfl, h1, h2, _⟩
  · cases x' <;> first | rfl | simp [nice] at n
  · rcases obD_inv h2 with ⟨xs, rfl, rfl⟩ | ⟨kvs, rfl, rfl⟩ | ⟨w, kvs, rfl, rfl⟩ | ⟨C, fs, rfl, rfl⟩
    · exact vw_ref h1
    · simp [nice] at n
    · simp [nice] at n
    · simp [nice] at n
theorem pur_nice (h : pur x = true) : nice x = true := by cases x <;> first | rfl | simp [pur] at h
/-- neither a place nor a list nor a dict: itself -/
def atom : D → Bool
  | .non => true | .bl _ => true | .int _ => true | .str _ => true | .ty _ => true | .tup _ => true | .sq _ => true | _ => false
theorem Vw.atom (h : Vw Y μ x' x) (n : atom x = true) : x' = x := by
  rcases h with rfl | ⟨a, o, rfl, h1, h2, _⟩
  · rfl
  · rcases obD_inv h2 with ⟨xs, rfl, rfl⟩ | ⟨kvs, rfl, rfl⟩ | ⟨w, kvs, rfl, rfl⟩ | ⟨C, fs, rfl, rfl⟩ <;> simp [Dl.atom] at n
def rowD : D → Option (List D)
  | .lst xs => some xs | .sq xs => some xs | .tup xs => some xs | _ => none
theorem Vw.row (h : Vw Y μ x' x) (e : rowD x = some xs) : rowOf μ x' = some xs := by
  have n : nice x = true := by cases x <;> first | rfl | simp [rowD] at e
  unfold rowOf
  rw [h.vw n]
  cases x <;> first | exact e | simp [rowD] at e
end
/-! ### what operators do -/
def vAdd : D → D → Option D
  | .int i, .int j => some (.int (i + j))
  | .str a, .str b => if a.length + b.length ≤ sizeLine then some (.str (a ++ b)) else none
  | .tup xs, .tup ys => if xs.length + ys.length ≤ sizeLine then some (.tup (xs ++ ys)) else none
  | .lst xs, .lst ys => if xs.length + ys.length ≤ sizeLine then some (.lst (xs ++ ys)) else none
  | _, _ => none
theorem vAdd_ok : Op2L vAdd gAdd := @fun Y x y x' y' d μ Q vx vy h q => by
  unfold vAdd at h
  split at h
  · rw [vx.atom rfl, vy.atom rfl]; cases h; exact q
  · split at h
    · rename_i c; cases h; rw [vx.atom rfl, vy.atom rfl]; exact ⟨c, q⟩
    · cases h
  · split at h
    · rename_i c; cases h; rw [vx.atom rfl, vy.atom rfl]; exact ⟨c, q⟩
    · cases h
  · split at h
    · rename_i c
      cases h
      have e1 := vx.vw rfl
      have e2 := vy.vw rfl
      unfold gAdd
      split
      · simp only [Dl.vw] at e1; cases e1
      · simp only [Dl.vw] at e1; cases e1
      · simp only [Dl.vw] at e1; cases e1
      · simp only [e1, e2]; exact ⟨c, q⟩
    · cases h
  · cases h
def v2I (C : Int → Int → Prop) [∀ i j, Decidable (C i j)] (f : Int → Int → Int) : D → D → Option D
  | .int i, .int j => if C i j then some (.int (f i j)) else none
  | _, _ => none
theorem v2I_ok {C : Int → Int → Prop} [∀ i j, Decidable (C i j)] {f : Int → Int → Int} : Op2L (v2I C f) (gI C fun i j => .int (f i j)) := @fun Y x y x' y' d μ Q vx vy h q => by
  unfold v2I at h
  split at h
  · split at h
    · rename_i c; cases h; rw [vx.atom rfl, vy.atom rfl]; exact ⟨c, q⟩
    · cases h
  · cases h
def vSub : D → D → Option D
  | .int i, .int j => some (.int (i - j))
  | _, _ => none
theorem vSub_ok : Op2L vSub gSub := @fun Y x y x' y' d μ Q vx vy h q => by
  unfold vSub at h
  split at h
  · cases h; rw [vx.atom rfl, vy.atom rfl]; exact q
  · cases h
instance (i j : Int) : Decidable (CMul i j) := by unfold CMul; exact inferInstance
instance (i j : Int) : Decidable (CDiv i j) := by unfold CDiv; exact inferInstance
instance (i j : Int) : Decidable (CPow i j) := by unfold CPow; exact inferInstance
abbrev vMul := v2I CMul fun i j => i * j
abbrev vMod := v2I (fun _ j => 0 < j) fun i j => i % j
abbrev vDiv := v2I CDiv fun i j => i / j
abbrev vPow := v2I CPow fun i j => i ^ j.toNat
def vNeg : D → Option D
  | .int i => some (.int (-i))
  | _ => none
/-! comparisons -/
def cEq (x y : D) : Option Bool := if pur x = true ∧ pur y = true ∧ (py y).depth ≤ 64 then some (PyData.eqv (py x) (py y)) else none
def cLt (x y : D) : Option Bool := if pur x = true ∧ pur y = true ∧ PySem.W.alike (py x) (py y) = true ∧ isNon x = false ∧ (py y).depth ≤ 64 then some (PySem.W.dataLt (py x) (py y)) else none
/-- by dataLt of the two turned about -/
def cGt (x y : D) : Option Bool := if pur x = true ∧ pur y = true ∧ PySem.W.alike (py x) (py y) = true ∧ isNon x = false ∧ (py y).depth ≤ 64 then some (PySem.W.dataLt (py y) (py x)) else none
theorem gD_ok {C : PyData → PyData → Prop} {f : PyData → PyData → Bool} {Y : Pc} {μ : Mu} {x y x' y' : D} {Q : DQ} (vx : Vw Y μ x' x) (vy : Vw Y μ y' y) (p1 : pur x = true) (p2 : pur y = true) (c : C (py x) (py y)) (q : Q (.bl (f (py x) (py y))) μ) : gD C f x' y' μ Q := by
  unfold gD
  rw [vx.vw (pur_nice p1), vy.vw (pur_nice p2)]
  exact ⟨p1, p2, c, q⟩
theorem non_ne {x : D} (p : pur x = true) (h : isNon x = false) : py x ≠ .none := by
  cases x <;> simp_all [pur, py, isNon]
section
variable {Y : Pc} {μ : Mu} {x y x' y' : D} {z : Bool} {Q : DQ}
theorem cEq_ok (vx : Vw Y μ x' x) (vy : Vw Y μ y' y) (h : cEq x y = some z) (q : Q (.bl z) μ) : gEq x' y' μ Q := by
  unfold cEq at h
  split at h
  · rename_i c; cases h; exact gD_ok vx vy c.1 c.2.1 ⟨py_plain _, py_plain _, c.2.2⟩ q
  · cases h
theorem cNe_ok (vx : Vw Y μ x' x) (vy : Vw Y μ y' y) (h : (cEq x y).map (!·) = some z) (q : Q (.bl z) μ) : gNe x' y' μ Q := by
  unfold cEq at h
  split at h
  · rename_i c; cases h; exact gD_ok vx vy c.1 c.2.1 ⟨py_plain _, py_plain _, c.2.2⟩ q
  · cases h
theorem cLt_ok (vx : Vw Y μ x' x) (vy : Vw Y μ y' y) (h : cLt x y = some z) (q : Q (.bl z) μ) : gLt x' y' μ Q := by
  unfold cLt at h
  split at h
  · rename_i c; cases h; exact gD_ok vx vy c.1 c.2.1 ⟨c.2.2.1, non_ne c.1 c.2.2.2.1, c.2.2.2.2⟩ q
  · cases h
theorem cGe_ok (vx : Vw Y μ x' x) (vy : Vw Y μ y' y) (h : (cLt x y).map (!·) = some z) (q : Q (.bl z) μ) : gGe x' y' μ Q := by
  unfold cLt at h
  split at h
  · rename_i c; cases h; exact gD_ok vx vy c.1 c.2.1 ⟨c.2.2.1, non_ne c.1 c.2.2.2.1, c.2.2.2.2⟩ q
  · cases h
theorem cGt_ok (vx : Vw Y μ x' x) (vy : Vw Y μ y' y) (h : cGt x y = some z) (q : Q (.bl z) μ) : gGt x' y' μ Q := by
  unfold cGt at h
  split at h
  · rename_i c; cases h; exact gD_ok vx vy c.1 c.2.1 ⟨c.2.2.1, non_ne c.1 c.2.2.2.1, c.2.2.2.2⟩ q
  · cases h
theorem cLe_ok (vx : Vw Y μ x' x) (vy : Vw Y μ y' y) (h : (cGt x y).map (!·) = some z) (q : Q (.bl z) μ) : gLe x' y' μ Q := by
  unfold cGt at h
  split at h
  · rename_i c; cases h; exact gD_ok vx vy c.1 c.2.1 ⟨c.2.2.1, non_ne c.1 c.2.2.2.1, c.2.2.2.2⟩ q
  · cases h
def cIsN (x y : D) : Option Bool := if isNon y = true then some (isNon x) else none
theorem vw_isN (vx : Vw Y μ x' x) : isNon x' = isNon x := by
  rcases vx with rfl | ⟨a, o, rfl, _, h, _⟩
  · rfl
  · rcases obD_inv h with ⟨xs, rfl, rfl⟩ | ⟨kvs, rfl, rfl⟩ | ⟨w, kvs, rfl, rfl⟩ | ⟨C, fs, rfl, rfl⟩ <;> rfl
theorem isNon_inv (h : isNon y = true) : y = .non := by cases y <;> first | rfl | simp [isNon] at h
theorem cIsN_ok (vx : Vw Y μ x' x) (vy : Vw Y μ y' y) (h : cIsN x y = some z) (q : Q (.bl z) μ) : gIsN x' y' μ Q := by
  unfold cIsN at h
  split at h
  · rename_i c
    cases h
    obtain rfl := isNon_inv c
    rw [vy.atom rfl]
    unfold gIsN
    simp only [vw_isN vx]
    exact q
  · cases h
theorem cNotN_ok (vx : Vw Y μ x' x) (vy : Vw Y μ y' y) (h : (cIsN x y).map (!·) = some z) (q : Q (.bl z) μ) : gNotN x' y' μ Q := by
  unfold cIsN at h
  split at h
  · rename_i c
    cases h
    obtain rfl := isNon_inv c
    rw [vy.atom rfl]
    unfold gNotN
    simp only [vw_isN vx]
    exact q
  · cases h
def cIn (x y : D) : Option Bool := match rowD y with
  | some ys => if pur x = true ∧ purL ys = true ∧ (py x).depth ≤ 63 then some (ys.any fun d => PyData.eqv (py d) (py x)) else none
  | none => none
theorem cIn_ok (w : Bool) (vx : Vw Y μ x' x) (vy : Vw Y μ y' y) (h : (cIn x y).map (· == w) = some z) (q : Q (.bl z) μ) : gRIn w x' y' μ Q := by
  unfold cIn at h
  split at h
  · rename_i ys e
    split at h
    · rename_i c
      cases h
      have e1 := vx.vw (pur_nice c.1)
      exact ⟨ys, vy.row e, by rw [e1]; exact c.1, c.2.1, by rw [e1]; exact c.2.2, by rw [e1]; exact q⟩
    · cases h
  · cases h
end
/-! items, slices, built-ins -/
def vIx : D → D → Option D
  | .lst xs, .int i => L2.atI xs i
  | .sq xs, .int i => L2.atI xs i
  | .tup xs, .int i => L2.atI xs i
  | .str z, .int i => if z.length ≤ sizeLine then (L2.atI z.cps.toList i).map fun c => .str ⟨#[c]⟩ else none
  | _, _ => none
theorem vIx_ok : Op2L vIx gIx := @fun Y x y x' y' d μ Q vx vy h q => by
  unfold vIx at h
  split at h
  · rw [vy.atom rfl]; unfold gIx; simp only [vx.vw rfl, h]; exact q
  · rw [vy.atom rfl]; unfold gIx; simp only [vx.vw rfl, h]; exact q
  · rw [vy.atom rfl]; unfold gIx; simp only [vx.vw rfl, h]; exact q
  · split at h
    · rename_i c
      obtain ⟨cc, e, rfl⟩ := Option.map_eq_some_iff.mp h
      rw [vy.atom rfl]; unfold gIx; simp only [vx.vw rfl, e]; exact ⟨c, q⟩
    · cases h
  · cases h
def vSl (x : D) (l u : Option Int) : Option D := match x with
  | .lst xs => some (.lst (cutD xs l u))
  | .sq xs => some (.lst (cutD xs l u))
  | .tup xs => some (.tup (cutD xs l u))
  | .str z => if z.length ≤ sizeLine then some (.str (cutS z l u)) else none
  | _ => none
theorem vSl_ok {Y : Pc} {x x' d : D} {l u : Option Int} {μ : Mu} {Q : DQ} (vx : Vw Y μ x' x) (h : vSl x l u = some d) (q : Q d μ) : gSl x' l u μ Q := by
  unfold vSl at h
  split at h
  · cases h; unfold gSl; simp only [vx.vw rfl]; exact q
  · cases h; unfold gSl; simp only [vx.vw rfl]; exact q
  · cases h; unfold gSl; simp only [vx.vw rfl]; exact q
  · split at h
    · rename_i c; cases h; unfold gSl; simp only [vx.vw rfl]; exact ⟨c, q⟩
    · cases h
  · cases h
def vRev : D → Option D
  | .lst xs => some (.lst xs.reverse)
  | .sq xs => some (.lst xs.reverse)
  | .tup xs => some (.tup xs.reverse)
  | _ => none
theorem vRev_ok {Y : Pc} {x x' d : D} {μ : Mu} {Q : DQ} (vx : Vw Y μ x' x) (h : vRev x = some d) (q : Q d μ) : gRev x' μ Q := by
  unfold vRev at h
  split at h <;> first | (cases h; unfold gRev; simp only [vx.vw rfl]; exact q) | cases h
def vLen : D → Option D
  | .lst xs => some (.int xs.length)
  | .sq xs => some (.int xs.length)
  | .tup xs => some (.int xs.length)
  | .str z => if z.length ≤ sizeLine then some (.int z.length) else none
  | _ => none
theorem vLen_ok {Y : Pc} {x x' d : D} {μ : Mu} {Q : DQ} (vx : Vw Y μ x' x) (h : vLen x = some d) (q : Q d μ) : gLen [x'] μ Q := by
  unfold vLen at h
  split at h
  · cases h; unfold gLen; simp only [vx.vw rfl]; exact q
  · cases h; unfold gLen; simp only [vx.vw rfl]; exact q
  · cases h; unfold gLen; simp only [vx.vw rfl]; exact q
  · split at h
    · rename_i c; cases h; unfold gLen; simp only [vx.vw rfl]; exact ⟨c, q⟩
    · cases h
  · cases h
def vList (x : D) : Option D := (rowD x).map D.lst
theorem vList_ok {Y : Pc} {x x' d : D} {μ : Mu} {Q : DQ} (vx : Vw Y μ x' x) (h : vList x = some d) (q : Q d μ) : gList [x'] μ Q := by
  obtain ⟨xs, e, rfl⟩ := Option.map_eq_some_iff.mp h
  unfold gList
  simp only [vx.row e]
  exact q
def vTuple (x : D) : Option D := (rowD x).map D.tup
theorem vTuple_ok {Y : Pc} {x x' d : D} {μ : Mu} {Q : DQ} (vx : Vw Y μ x' x) (h : vTuple x = some d) (q : Q d μ) : gTuple [x'] μ Q := by
  obtain ⟨xs, e, rfl⟩ := Option.map_eq_some_iff.mp h
  unfold gTuple
  cases x <;> simp only [rowD, Option.some.injEq, reduceCtorEq] at e <;> subst e <;> simp only [vx.vw rfl] <;> exact q
def vMax2 : List D → Option D
  | [.int i, .int j] => some (.int (if j > i then j else i))
  | _ => none
def vMin2 : List D → Option D
  | [.int i, .int j] => some (.int (if j < i then j else i))
  | _ => none
def vAbs : D → Option D
  | .int i => some (.int (if i < 0 then -i else i))
  | _ => none
def vInt : D → Option D
  | .int i => some (.int i)
  | .bl z => some (.int (if z = true then 1 else 0))
  | _ => none
def vStrI : D → Option D
  | .int i => if i.natAbs.log2 < 1920 then some (.str (toString i)) else none
  | _ => none
/-- a list of ints -/
def intsD : List D → Option (List Int)
  | [] => some []
  | .int i :: xs => (intsD xs).map (i :: ·)
  | _ => none
def bolsD : List D → Option (List Bool)
  | [] => some []
  | .bl i :: xs => (bolsD xs).map (i :: ·)
  | _ => none
theorem intsD_inv : ∀ {xs : List D} {ns : List Int}, intsD xs = some ns → xs = ns.map D.int
  | [], ns, h => by simp [intsD] at h; subst h; rfl
  | .int i :: xs, ns, h => by
    simp only [intsD] at h
    obtain ⟨ms, e, rfl⟩ := Option.map_eq_some_iff.mp h
    rw [intsD_inv e]; rfl
theorem bolsD_inv : ∀ {xs : List D} {ns : List Bool}, bolsD xs = some ns → xs = ns.map D.bl
  | [], ns, h => by simp [bolsD] at h; subst h; rfl
  | .bl i :: xs, ns, h => by
    simp only [bolsD] at h
    obtain ⟨ms, e, rfl⟩ := Option.map_eq_some_iff.mp h
    rw [bolsD_inv e]; rfl
theorem intsD_map (ns : List Int) : intsD (ns.map D.int) = some ns := by
  induction ns with
  | nil => rfl
  | cons n ns ih => simp only [List.map, intsD, ih, Option.map]
theorem bolsD_map (ns : List Bool) : bolsD (ns.map D.bl) = some ns := by
  induction ns with
  | nil => rfl
  | cons n ns ih => simp only [List.map, bolsD, ih, Option.map]
def vSum : D → Option D
  | .lst xs => (intsD xs).map fun ns => .int ns.sum
  | _ => none
def vAny : D → Option D
  | .lst xs => (bolsD xs).map fun bs => .bl (bs.any id)
  | _ => none
def vAll : D → Option D
  | .lst xs => (bolsD xs).map fun bs => .bl (bs.all id)
  | _ => none
theorem vSum_ok {x d : D} {μ : Mu} {Q : DQ} (h : vSum x = some d) (q : Q d μ) : gSum [x] μ Q := by
  unfold vSum at h
  split at h
  · obtain ⟨ns, e, rfl⟩ := Option.map_eq_some_iff.mp h
    exact ⟨ns, by rw [intsD_inv e], q⟩
  · cases h
theorem vAny_ok {x d : D} {μ : Mu} {Q : DQ} (h : vAny x = some d) (q : Q d μ) : gAny [x] μ Q := by
  unfold vAny at h
  split at h
  · obtain ⟨ns, e, rfl⟩ := Option.map_eq_some_iff.mp h
    exact ⟨ns, by rw [bolsD_inv e], q⟩
  · cases h
theorem vAll_ok {x d : D} {μ : Mu} {Q : DQ} (h : vAll x = some d) (q : Q d μ) : gAll [x] μ Q := by
  unfold vAll at h
  split at h
  · obtain ⟨ns, e, rfl⟩ := Option.map_eq_some_iff.mp h
    exact ⟨ns, by rw [bolsD_inv e], q⟩
  · cases h
/-! sorted of a list, of a dict's keys -/
open Classical in
noncomputable def vSorted (w : World) (x : D) : Option D := match x with
  | .lst xs => if SortOk xs then some (.lst (sortD xs)) else none
  | .sq xs => if SortOk xs then some (.lst (sortD xs)) else none
  | .dN w' kvs => if w' = w ∧ SortOk (kvs.map fun kv => dn kv.1) then some (.lst (sortD (kvs.map fun kv => dn kv.1))) else none
  | _ => none
theorem vSorted_lst {w : World} {xs : List D} (h : SortOk xs) : vSorted w (.lst xs) = some (.lst (sortD xs)) := by unfold vSorted; simp only [h, if_true]
theorem vSorted_dN {w : World} {kvs : List (NestedKey × D)} (h : SortOk (kvs.map fun kv => dn kv.1)) : vSorted w (.dN w kvs) = some (.lst (sortD (kvs.map fun kv => dn kv.1))) := by unfold vSorted; simp only [h, true_and, if_true]
theorem vSorted_ok {Y : Pc} {w : World} {x x' d : D} {μ : Mu} {Q : DQ} (vx : Vw Y μ x' x) (h : vSorted w x = some d) (q : Q d μ) : ∃ xs, colD w μ x' xs ∧ SortOk xs ∧ Q (.lst (sortD xs)) μ := by
  unfold vSorted at h
  split at h
  · split at h
    · rename_i c; cases h; exact ⟨_, .inr (.inl (vx.vw rfl)), c, q⟩
    · cases h
  · split at h
    · rename_i c; cases h; exact ⟨_, .inr (.inr (.inl (vx.vw rfl))), c, q⟩
    · cases h
  · split at h
    · rename_i kvs c
      obtain ⟨rfl, c⟩ := c
      cases h
      rcases vx with rfl | ⟨a, o, rfl, h1, h2, _⟩
      · exact ⟨_, .inr (.inr (.inr ⟨_, rfl, rfl⟩)), c, q⟩
      · rcases obD_inv h2 with ⟨_, _, z⟩ | ⟨_, _, z⟩ | ⟨w2, kvs2, rfl, z⟩ | ⟨_, _, _, z⟩
        rotate_right
        · cases z
        · cases z
        · cases z
        · cases z; exact ⟨_, .inl ⟨a, _, rfl, h1, rfl⟩, c, q⟩
    · cases h
  · cases h
/-- types, of data alone -/
def tyV : D → Option Ty
  | .non => some .non | .bl _ => some .bl | .int _ => some .int | .str _ => some .str | .lst _ => some .lst | .sq _ => some .lst | .tup _ => some .tup | .obj C _ => some (.own C) | .dK _ => some .dct
  | _ => none
theorem Vw.ty {Y : Pc} {μ : Mu} {x' x : D} {t : Ty} (h : Vw Y μ x' x) (e : tyV x = some t) : tyD μ x' = some t := by
  rcases h with rfl | ⟨a, o, rfl, h1, h2, _⟩
  · cases x' <;> first | exact e | simp [tyV] at e
  · rcases obD_inv h2 with ⟨xs, rfl, rfl⟩ | ⟨kvs, rfl, rfl⟩ | ⟨w, kvs, rfl, rfl⟩ | ⟨C, fs, rfl, rfl⟩
    · cases e; unfold tyD; simp only [h1]
    · cases e; unfold tyD; simp only [h1]
    · cases e
    · cases e; unfold tyD; simp only [h1]
def vIsi (ans : Ty → Option Bool) (x : D) : Option Bool := (tyV x).bind ans
theorem vIsi_ok {Y : Pc} {ans : Ty → Option Bool} {c x x' : D} {z : Bool} {μ : Mu} {Q : DQ} (vx : Vw Y μ x' x) (h : vIsi ans x = some z) (q : Q (.bl z) μ) : gIsi ans c [x', c] μ Q := by
  obtain ⟨t, e1, e2⟩ := Option.bind_eq_some_iff.mp h
  exact ⟨rfl, t, z, vx.ty e1, e2, q⟩
end Dl

/-! Pure expressions: the rules. -/
namespace Dl
open PySem PySem.Spec PyProof.Rows L2
section
variable {X : Cx} {G : Gh} {Y : Pc} {e a b c o : Expr} {es rest : List Expr} {pos p : Pos} {f fa fb fc : Ro → Res D} {k : Nat}
theorem pv_add (ha : PD X G a (dVL Y fa)) (hb : PD X G b (dVL Y fb)) : PD X G (.BinOp a .Add b pos) (dV Y (vOp vAdd fa fb)) := (pd_add ha hb).mono fun _ _ _ h => dV_opL vAdd_ok h
theorem pv_sub (ha : PD X G a (dVL Y fa)) (hb : PD X G b (dVL Y fb)) : PD X G (.BinOp a .Sub b pos) (dV Y (vOp vSub fa fb)) := (pd_sub ha hb).mono fun _ _ _ h => dV_opL vSub_ok h
theorem pv_mul (ha : PD X G a (dVL Y fa)) (hb : PD X G b (dVL Y fb)) : PD X G (.BinOp a .Mult b pos) (dV Y (vOp vMul fa fb)) := (pd_mul ha hb).mono fun _ _ _ h => dV_opL v2I_ok h
theorem pv_mod (ha : PD X G a (dVL Y fa)) (hb : PD X G b (dVL Y fb)) : PD X G (.BinOp a .Mod b pos) (dV Y (vOp vMod fa fb)) := (pd_mod ha hb).mono fun _ _ _ h => dV_opL v2I_ok h
theorem pv_div (ha : PD X G a (dVL Y fa)) (hb : PD X G b (dVL Y fb)) : PD X G (.BinOp a .FloorDiv b pos) (dV Y (vOp vDiv fa fb)) := (pd_div ha hb).mono fun _ _ _ h => dV_opL v2I_ok h
theorem pv_pow (ha : PD X G a (dVL Y fa)) (hb : PD X G b (dVL Y fb)) : PD X G (.BinOp a .Pow b pos) (dV Y (vOp vPow fa fb)) := (pd_pow ha hb).mono fun _ _ _ h => dV_opL v2I_ok h
theorem pv_neg (ha : PD X G a (dV Y fa)) : PD X G (.UnaryOp .USub a pos) (dV Y (vUn vNeg fa)) := (pd_neg ha).mono fun _ _ _ h => dV_un (fun {x d μ Q} e q => by
  unfold vNeg at e
  split at e
  · cases e; exact q
  · cases e) h
/-! comparisons -/
def vCmp (v : D → D → Option Bool) (fa fb : Ro → Res D) : Ro → Res Bool := fun ρ => (fa ρ).bind fun x => (fb ρ).bind fun y => Res.of (v x y)
def vBl (v : D → D → Option Bool) : D → D → Option D := fun x y => (v x y).map D.bl
def CmpL (v : D → D → Option Bool) (g : G2) : Prop := ∀ {Y x y x' y' z μ} {Q : DQ}, Vw Y μ x' x → Vw Y μ y' y → v x y = some z → Q (.bl z) μ → g x' y' μ Q
theorem CmpL.op {v : D → D → Option Bool} {g : G2} (h : CmpL v g) : Op2L (vBl v) g := @fun Y x y x' y' d μ Q vx vy e q => by
  obtain ⟨z, e1, rfl⟩ := Option.map_eq_some_iff.mp e
  exact h vx vy e1 q
theorem dVT_cmp {v : D → D → Option Bool} {g : G2} (kk : CmpL v g) {ρc : Ro} {μ : Mu} {Q : Bool → Mu → Prop} (h : dVT Y (vCmp v fa fb) ρc μ Q) : dB (dOp g (dVL Y fa) (dVL Y fb)) ρc μ Q := by
  obtain ⟨ρ, w, q⟩ := h
  refine ⟨ρ, w, (RQ.bind q).mono fun x q x' vx => ⟨ρ, w, (RQ.bind q).mono fun y q y' vy => ?_⟩⟩
  obtain ⟨d, e, q⟩ := q.of
  exact kk vx vy e q
abbrev cNe (x y : D) := (cEq x y).map (!·)
abbrev cGe (x y : D) := (cLt x y).map (!·)
abbrev cLe (x y : D) := (cGt x y).map (!·)
abbrev cNotN (x y : D) := (cIsN x y).map (!·)
abbrev cIn1 (x y : D) := (cIn x y).map (· == true)
abbrev cIn0 (x y : D) := (cIn x y).map (· == false)
theorem pv_eq (hr : Room k X.A) (ha : PD X G a (dVL Y fa)) (hb : PD X G b (dVL Y fb)) : PD X G (.Compare a [.Eq] [b] pos) (dV Y (vOp (vBl cEq) fa fb)) := (pd_eq hr ha hb).mono fun _ _ _ h => dV_opL (CmpL.op cEq_ok) h
theorem pv_ne (hr : Room k X.A) (ha : PD X G a (dVL Y fa)) (hb : PD X G b (dVL Y fb)) : PD X G (.Compare a [.NotEq] [b] pos) (dV Y (vOp (vBl cNe) fa fb)) := (pd_ne hr ha hb).mono fun _ _ _ h => dV_opL (CmpL.op cNe_ok) h
theorem pv_lt (hr : Room k X.A) (ha : PD X G a (dVL Y fa)) (hb : PD X G b (dVL Y fb)) : PD X G (.Compare a [.Lt] [b] pos) (dV Y (vOp (vBl cLt) fa fb)) := (pd_lt hr ha hb).mono fun _ _ _ h => dV_opL (CmpL.op cLt_ok) h
theorem pv_gt (hr : Room k X.A) (ha : PD X G a (dVL Y fa)) (hb : PD X G b (dVL Y fb)) : PD X G (.Compare a [.Gt] [b] pos) (dV Y (vOp (vBl cGt) fa fb)) := (pd_gt hr ha hb).mono fun _ _ _ h => dV_opL (CmpL.op cGt_ok) h
theorem pv_le (hr : Room k X.A) (ha : PD X G a (dVL Y fa)) (hb : PD X G b (dVL Y fb)) : PD X G (.Compare a [.LtE] [b] pos) (dV Y (vOp (vBl cLe) fa fb)) := (pd_le hr ha hb).mono fun _ _ _ h => dV_opL (CmpL.op cLe_ok) h
theorem pv_ge (hr : Room k X.A) (ha : PD X G a (dVL Y fa)) (hb : PD X G b (dVL Y fb)) : PD X G (.Compare a [.GtE] [b] pos) (dV Y (vOp (vBl cGe) fa fb)) := (pd_ge hr ha hb).mono fun _ _ _ h => dV_opL (CmpL.op cGe_ok) h
theorem pv_isN (ha : PD X G a (dVL Y fa)) (hb : PD X G b (dVL Y fb)) : PD X G (.Compare a [.Is] [b] pos) (dV Y (vOp (vBl cIsN) fa fb)) := (pd_isN ha hb).mono fun _ _ _ h => dV_opL (CmpL.op cIsN_ok) h
theorem pv_notN (ha : PD X G a (dVL Y fa)) (hb : PD X G b (dVL Y fb)) : PD X G (.Compare a [.IsNot] [b] pos) (dV Y (vOp (vBl cNotN) fa fb)) := (pd_notN ha hb).mono fun _ _ _ h => dV_opL (CmpL.op cNotN_ok) h
theorem pv_in (hr : Room k X.A) (ha : PD X G a (dVL Y fa)) (hb : PD X G b (dVL Y fb)) (hm : behindInMarks .In b = false := by rfl) : PD X G (.Compare a [.In] [b] pos) (dV Y (vOp (vBl cIn1) fa fb)) := (pd_rin hr ha hb hm).mono fun _ _ _ h => dV_opL (CmpL.op (cIn_ok true)) h
theorem pv_nin (hr : Room k X.A) (ha : PD X G a (dVL Y fa)) (hb : PD X G b (dVL Y fb)) (hm : behindInMarks .NotIn b = false := by rfl) : PD X G (.Compare a [.NotIn] [b] pos) (dV Y (vOp (vBl cIn0) fa fb)) := (pd_rnin hr ha hb hm).mono fun _ _ _ h => dV_opL (CmpL.op (cIn_ok false)) h
/-! the same as tests -/
theorem tv_eq (hr : Room k X.A) (ha : PD X G a (dVL Y fa)) (hb : PD X G b (dVL Y fb)) : PDT X G (.Compare a [.Eq] [b] pos) (dVT Y (vCmp cEq fa fb)) := (pt_eq hr ha hb).mono fun _ _ _ h => dVT_cmp cEq_ok h
theorem tv_ne (hr : Room k X.A) (ha : PD X G a (dVL Y fa)) (hb : PD X G b (dVL Y fb)) : PDT X G (.Compare a [.NotEq] [b] pos) (dVT Y (vCmp cNe fa fb)) := (pt_ne hr ha hb).mono fun _ _ _ h => dVT_cmp cNe_ok h
theorem tv_lt (hr : Room k X.A) (ha : PD X G a (dVL Y fa)) (hb : PD X G b (dVL Y fb)) : PDT X G (.Compare a [.Lt] [b] pos) (dVT Y (vCmp cLt fa fb)) := (pt_lt hr ha hb).mono fun _ _ _ h => dVT_cmp cLt_ok h
theorem tv_gt (hr : Room k X.A) (ha : PD X G a (dVL Y fa)) (hb : PD X G b (dVL Y fb)) : PDT X G (.Compare a [.Gt] [b] pos) (dVT Y (vCmp cGt fa fb)) := (pt_gt hr ha hb).mono fun _ _ _ h => dVT_cmp cGt_ok h
theorem tv_le (hr : Room k X.A) (ha : PD X G a (dVL Y fa)) (hb : PD X G b (dVL Y fb)) : PDT X G (.Compare a [.LtE] [b] pos) (dVT Y (vCmp cLe fa fb)) := (pt_le hr ha hb).mono fun _ _ _ h => dVT_cmp cLe_ok h
theorem tv_ge (hr : Room k X.A) (ha : PD X G a (dVL Y fa)) (hb : PD X G b (dVL Y fb)) : PDT X G (.Compare a [.GtE] [b] pos) (dVT Y (vCmp cGe fa fb)) := (pt_ge hr ha hb).mono fun _ _ _ h => dVT_cmp cGe_ok h
theorem tv_isN (ha : PD X G a (dVL Y fa)) (hb : PD X G b (dVL Y fb)) : PDT X G (.Compare a [.Is] [b] pos) (dVT Y (vCmp cIsN fa fb)) := (pt_isN ha hb).mono fun _ _ _ h => dVT_cmp cIsN_ok h
theorem tv_notN (ha : PD X G a (dVL Y fa)) (hb : PD X G b (dVL Y fb)) : PDT X G (.Compare a [.IsNot] [b] pos) (dVT Y (vCmp cNotN fa fb)) := (pt_notN ha hb).mono fun _ _ _ h => dVT_cmp cNotN_ok h
theorem tv_in (hr : Room k X.A) (ha : PD X G a (dVL Y fa)) (hb : PD X G b (dVL Y fb)) (hm : behindInMarks .In b = false := by rfl) : PDT X G (.Compare a [.In] [b] pos) (dVT Y (vCmp cIn1 fa fb)) := (pt_rin hr ha hb hm).mono fun _ _ _ h => dVT_cmp (cIn_ok true) h
theorem tv_nin (hr : Room k X.A) (ha : PD X G a (dVL Y fa)) (hb : PD X G b (dVL Y fb)) (hm : behindInMarks .NotIn b = false := by rfl) : PDT X G (.Compare a [.NotIn] [b] pos) (dVT Y (vCmp cIn0 fa fb)) := (pt_rnin hr ha hb hm).mono fun _ _ _ h => dVT_cmp (cIn_ok false) h
/-! ### and, or, not, if -/
def bolD : D → Option Bool
  | .bl z => some z
  | _ => none
def vTest (f : Ro → Res D) : Ro → Res Bool := fun ρ => (f ρ).bind fun x => Res.of (bolD x)
def vAndT (f g : Ro → Res Bool) : Ro → Res Bool := fun ρ => (f ρ).bind fun z => if z = true then g ρ else .ok false
def vOrT (f g : Ro → Res Bool) : Ro → Res Bool := fun ρ => (f ρ).bind fun z => if z = true then .ok true else g ρ
def vNotT (f : Ro → Res Bool) : Ro → Res Bool := fun ρ => (f ρ).bind fun z => .ok (!z)
def vIfE (t : Ro → Res Bool) (f g : Ro → Res D) : Ro → Res D := fun ρ => (t ρ).bind fun z => if z = true then f ρ else g ρ
def vAnd (f g : Ro → Res D) : Ro → Res D := fun ρ => (f ρ).bind fun x => (Res.of (bolD x)).bind fun z => if z = true then g ρ else .ok (.bl false)
def vOr (f g : Ro → Res D) : Ro → Res D := fun ρ => (f ρ).bind fun x => (Res.of (bolD x)).bind fun z => if z = true then .ok (.bl true) else g ρ
def vNot (f : Ro → Res D) : Ro → Res D := fun ρ => (f ρ).bind fun x => (Res.of (bolD x)).bind fun z => .ok (.bl (!z))
theorem bolD_inv {x : D} {z : Bool} (h : bolD x = some z) : x = .bl z := by cases x <;> simp [bolD] at h; subst h; rfl
variable {t u : Ro → Res Bool}
theorem tv_b (h : PD X G e (dV Y f)) (he : ∀ whole, isTrue e X.env whole = (do let v ← whole; standAt e.pos; holding [v] (truthy v)) := by intro _; rfl) : PDT X G e (dVT Y (vTest f)) := (pt_b h he).mono fun ρc μ Q ⟨ρ, w, q⟩ => by
  refine ⟨ρ, w, (RQ.bind q).mono fun x q => ?_⟩
  obtain ⟨z, e, q⟩ := q.of
  rw [bolD_inv e]
  exact q
theorem tv_w (h : PDW X G e (dVT Y t)) : PDT X G e (dVT Y t) := pt_w h
theorem wv_a1 (h : PDT X G a (dVT Y t)) : PDW X G (.BoolOp .And [a] pos) (dVT Y t) := pw_a1 h
theorem wv_o1 (h : PDT X G a (dVT Y t)) : PDW X G (.BoolOp .Or [a] pos) (dVT Y t) := pw_o1 h
theorem wv_a (ha : PDT X G a (dVT Y t)) (hb : PDW X G (.BoolOp .And (b :: rest) pos) (dVT Y u)) : PDW X G (.BoolOp .And (a :: b :: rest) pos) (dVT Y (vAndT t u)) := (pw_a ha hb).mono fun ρc μ Q ⟨ρ, w, q⟩ => by
  refine ⟨ρ, w, (RQ.bind q).mono fun z q => ?_⟩
  cases z
  · exact q
  · exact ⟨ρ, w, q⟩
theorem wv_o (ha : PDT X G a (dVT Y t)) (hb : PDW X G (.BoolOp .Or (b :: rest) pos) (dVT Y u)) : PDW X G (.BoolOp .Or (a :: b :: rest) pos) (dVT Y (vOrT t u)) := (pw_o ha hb).mono fun ρc μ Q ⟨ρ, w, q⟩ => by
  refine ⟨ρ, w, (RQ.bind q).mono fun z q => ?_⟩
  cases z
  · exact ⟨ρ, w, q⟩
  · exact q
theorem tv_n (ha : PDT X G a (dVT Y t)) : PDT X G (.UnaryOp .Not a pos) (dVT Y (vNotT t)) := (pt_n ha).mono fun ρc μ Q ⟨ρ, w, q⟩ => ⟨ρ, w, (RQ.bind q).mono fun z q => q⟩
theorem pv_if (hc : PDT X G c (dVT Y t)) (ha : PD X G a (dV Y fa)) (hb : PD X G b (dV Y fb)) : PD X G (.IfExp c a b pos) (dV Y (vIfE t fa fb)) := (pd_if hc ha hb).mono fun ρc μ Q ⟨ρ, w, q⟩ => by
  refine ⟨ρ, w, (RQ.bind q).mono fun z q => ?_⟩
  cases z <;> exact ⟨ρ, w, q⟩
theorem pv_one {op} (h : PD X G a (dV Y fa)) : PD X G (.BoolOp op [a] pos) (dV Y fa) := pd_one h
theorem pv_and (ha : PD X G a (dV Y fa)) (hb : PD X G (.BoolOp .And (b :: rest) pos) (dV Y fb)) : PD X G (.BoolOp .And (a :: b :: rest) pos) (dV Y (vAnd fa fb)) := (pd_and ha hb).mono fun ρc μ Q ⟨ρ, w, q⟩ => by
  refine ⟨ρ, w, (RQ.bind q).mono fun x q => ?_⟩
  obtain ⟨z, e, q⟩ := (RQ.bind q).of
  rw [bolD_inv e]
  cases z
  · exact q
  · exact ⟨ρ, w, q⟩
theorem pv_or (ha : PD X G a (dV Y fa)) (hb : PD X G (.BoolOp .Or (b :: rest) pos) (dV Y fb)) : PD X G (.BoolOp .Or (a :: b :: rest) pos) (dV Y (vOr fa fb)) := (pd_or ha hb).mono fun ρc μ Q ⟨ρ, w, q⟩ => by
  refine ⟨ρ, w, (RQ.bind q).mono fun x q => ?_⟩
  obtain ⟨z, e, q⟩ := (RQ.bind q).of
  rw [bolD_inv e]
  cases z
  · exact ⟨ρ, w, q⟩
  · exact q
theorem pv_not (ha : PD X G a (dV Y fa)) : PD X G (.UnaryOp .Not a pos) (dV Y (vNot fa)) := (pd_not ha).mono fun ρc μ Q ⟨ρ, w, q⟩ => by
  refine ⟨ρ, w, (RQ.bind q).mono fun x q => ?_⟩
  obtain ⟨z, e, q⟩ := (RQ.bind q).of
  rw [bolD_inv e]
  exact q
/-! ### rows of expressions -/
def vNil : Ro → Res (List D) := fun _ => .ok []
def vCons (f : Ro → Res D) (r : Ro → Res (List D)) : Ro → Res (List D) := fun ρ => (f ρ).bind fun x => (r ρ).bind fun xs => .ok (x :: xs)
def vStar (f : Ro → Res D) (r : Ro → Res (List D)) : Ro → Res (List D) := fun ρ => (f ρ).bind fun x => (Res.of (rowD x)).bind fun ys => (r ρ).bind fun xs => .ok (ys ++ xs)
variable {r : Ro → Res (List D)}
theorem av_nil : PDA X G [] (dVA Y vNil) := pda_nil.mono fun ρc μ Q ⟨ρ, w, q⟩ => q
theorem av_cons (ha : PD X G e (dV Y f)) (hr : PDA X G es (dVA Y r)) (hs : starEach (e :: es) X.env = (false, eval e X.env) :: starEach es X.env := by rfl) : PDA X G (e :: es) (dVA Y (vCons f r)) := (pda_cons ha hr hs).mono fun ρc μ Q ⟨ρ, w, q⟩ =>
  ⟨ρ, w, (RQ.bind q).mono fun x q => ⟨ρ, w, (RQ.bind q).mono fun xs q => q⟩⟩
theorem av_star (he : PD X G e (dVL Y f)) (hr : PDA X G es (dVA Y r)) (hs : starEach (.Starred e p :: es) X.env = (true, eval e X.env) :: starEach es X.env := by rfl) : PDA X G (.Starred e p :: es) (dVA Y (vStar f r)) := (pda_star he hr hs).mono fun ρc μ Q ⟨ρ, w, q⟩ => by
  refine ⟨ρ, w, (RQ.bind q).mono fun x q x' vx => ?_⟩
  obtain ⟨ys, e, q⟩ := (RQ.bind q).of
  exact ⟨ys, vx.row e, ρ, w, (RQ.bind q).mono fun xs q => q⟩
theorem kv_nil : PDK X G [] (dVA Y vNil) := pdk_nil.mono fun ρc μ Q ⟨ρ, w, q⟩ => q
theorem kv_cons {kws : List Keyword} {nm : Option Str} {kpos : Pos} (ha : PD X G e (dV Y f)) (hr : PDK X G kws (dVA Y r)) : PDK X G (⟨nm, e, kpos⟩ :: kws) (dVA Y (vCons f r)) := (pdk_cons ha hr).mono fun ρc μ Q ⟨ρ, w, q⟩ =>
  ⟨ρ, w, (RQ.bind q).mono fun x q => ⟨ρ, w, (RQ.bind q).mono fun xs q => q⟩⟩
def vTup (r : Ro → Res (List D)) : Ro → Res D := fun ρ => (r ρ).bind fun xs => if xs.length ≤ sizeLine then .ok (.tup xs) else .no
def vLst (r : Ro → Res (List D)) : Ro → Res D := fun ρ => (r ρ).bind fun xs => if xs.length ≤ sizeLine then .ok (.lst xs) else .no
theorem RQ.ite {E : Addr → List (Str × D) → Prop} {α : Type} {c : Prop} [Decidable c] {r : Res α} {P : α → Prop} (h : RQ E (if c then r else .no) P) : c ∧ RQ E r P := by
  by_cases z : c
  · rw [if_pos z] at h; exact ⟨z, h⟩
  · rw [if_neg z] at h; exact h.elim
theorem pv_tup {x1} (h : PDA X G es (dVA Y r)) : PD X G (.Tuple es x1 pos) (dV Y (vTup r)) := (pd_tup h).mono fun ρc μ Q ⟨ρ, w, q⟩ => ⟨ρ, w, (RQ.bind q).mono fun xs q => RQ.ite q⟩
theorem pv_lst (h : PDA X G es (dVA Y r)) : PD X G (.List es pos) (dV Y (vLst r)) := (pd_lst h).mono fun ρc μ Q ⟨ρ, w, q⟩ => ⟨ρ, w, (RQ.bind q).mono fun xs q => RQ.ite q⟩
/-! ### items, slices -/
theorem pv_at (ha : PD X G a (dVL Y fa)) (hb : PD X G b (dVL Y fb)) (hs : PlainIx b := by exact fun _ _ => rfl) : PD X G (.Subscript a b pos) (dV Y (vOp vIx fa fb)) := (pd_at ha hb hs).mono fun _ _ _ h => dV_opL vIx_ok h
def intD : D → Option Int
  | .int i => some i
  | _ => none
theorem intD_inv {x : D} {i : Int} (h : intD x = some i) : x = .int i := by cases x <;> simp [intD] at h; subst h; rfl
def vNo : Ro → Res (Option Int) := fun _ => .ok none
def vSome (f : Ro → Res D) : Ro → Res (Option Int) := fun ρ => (f ρ).bind fun x => (Res.of (intD x)).bind fun i => .ok (some i)
theorem ov_none : PDO X G none (dVO Y vNo) := pdo_none.mono fun ρc μ Q ⟨ρ, w, q⟩ => q
theorem ov_some (h : PD X G e (dV Y f)) : PDO X G (some e) (dVO Y (vSome f)) := (pdo_some h).mono fun ρc μ Q ⟨ρ, w, q⟩ => by
  refine ⟨ρ, w, (RQ.bind q).mono fun x q => ?_⟩
  obtain ⟨i, e, q⟩ := (RQ.bind q).of
  rw [intD_inv e]
  exact q
def vSlice (f : Ro → Res D) (l u : Ro → Res (Option Int)) : Ro → Res D := fun ρ => (f ρ).bind fun x => (l ρ).bind fun i => (u ρ).bind fun j => Res.of (vSl x i j)
theorem pv_slice {lo hi : Option Expr} {p2 : Pos} {l u : Ro → Res (Option Int)} (he : PD X G e (dVL Y f)) (hl : PDO X G lo (dVO Y l)) (hh : PDO X G hi (dVO Y u)) : PD X G (.Subscript e (.Slice lo hi none p2) pos) (dV Y (vSlice f l u)) := (pd_slice he hl hh).mono fun ρc μ Q ⟨ρ, w, q⟩ => by
  refine ⟨ρ, w, (RQ.bind q).mono fun x q x' vx => ⟨ρ, w, (RQ.bind q).mono fun i q => ⟨ρ, w, (RQ.bind q).mono fun j q => ?_⟩⟩⟩
  obtain ⟨d, e, q⟩ := q.of
  exact vSl_ok vx e q
theorem pv_rev {p1 p2 p3 : Pos} {k : Nat} (he : PD X G e (dVL Y f)) : PD X G (.Subscript e (.Slice none none (some (.UnaryOp .USub (.Constant (.int 1) k p1) p2)) p3) pos) (dV Y (vUn vRev f)) := (pd_rev he).mono fun _ _ _ h => dV_unL vRev_ok h
/-! ### built-ins -/
theorem dV_b1 {v : D → Option D} {g : List D → Mu → DQ → Prop} (kk : ∀ {Y x x' d μ Q}, Vw Y μ x' x → v x = some d → Q d μ → g [x'] μ Q) {ρc : Ro} {μ : Mu} {Q : DQ} (h : dV Y (vUn v f) ρc μ Q) : dCB g (dCons (dVL Y f) dNil) ρc μ Q := by
  obtain ⟨ρ, w, q⟩ := h
  refine ⟨ρ, w, (RQ.bind q).mono fun x q x' vx => ?_⟩
  obtain ⟨d, e, q⟩ := q.of
  exact kk vx e q
theorem dV_b1V {v : D → Option D} {g : List D → Mu → DQ → Prop} (kk : ∀ {x d μ} {Q : DQ}, v x = some d → Q d μ → g [x] μ Q) {ρc : Ro} {μ : Mu} {Q : DQ} (h : dV Y (vUn v f) ρc μ Q) : dCB g (dCons (dV Y f) dNil) ρc μ Q := by
  obtain ⟨ρ, w, q⟩ := h
  refine ⟨ρ, w, (RQ.bind q).mono fun x q => ?_⟩
  obtain ⟨d, e, q⟩ := q.of
  exact kk e q
def vArg (v : List D → Option D) (r : Ro → Res (List D)) : Ro → Res D := fun ρ => (r ρ).bind fun ds => Res.of (v ds)
theorem dV_bA {v : List D → Option D} {g : List D → Mu → DQ → Prop} (kk : ∀ {ds d μ} {Q : DQ}, v ds = some d → Q d μ → g ds μ Q) {ρc : Ro} {μ : Mu} {Q : DQ} (h : dV Y (vArg v r) ρc μ Q) : dCB g (dVA Y r) ρc μ Q := by
  obtain ⟨ρ, w, q⟩ := h
  refine ⟨ρ, w, (RQ.bind q).mono fun x q => ?_⟩
  obtain ⟨d, e, q⟩ := q.of
  exact kk e q
section
variable (hs : starEach [a] X.env = (false, eval a X.env) :: starEach [] X.env := by rfl)
theorem pv_len (hm : X.mg "len" = none) (ha : PD X G a (dVL Y fa)) (hg : Gl X "len" := by rfl) (hs : starEach [a] X.env = (false, eval a X.env) :: starEach [] X.env := by rfl) : PD X G (.Call (.Name "len" p) [a] [] pos) (dV Y (vUn vLen fa)) := (pd_len hm ha hg hs).mono fun _ _ _ h => dV_b1 vLen_ok h
theorem pv_list (hm : X.mg "list" = none) (hv : bootBuiltins "list" = some (.type "list")) (ha : PD X G a (dVL Y fa)) (hg : Gl X "list" := by rfl) (hs : starEach [a] X.env = (false, eval a X.env) :: starEach [] X.env := by rfl) : PD X G (.Call (.Name "list" p) [a] [] pos) (dV Y (vUn vList fa)) := (pd_list hm hv ha hg hs).mono fun _ _ _ h => dV_b1 vList_ok h
theorem pv_tuple (hm : X.mg "tuple" = none) (ha : PD X G a (dVL Y fa)) (hg : Gl X "tuple" := by rfl) (hs : starEach [a] X.env = (false, eval a X.env) :: starEach [] X.env := by rfl) : PD X G (.Call (.Name "tuple" p) [a] [] pos) (dV Y (vUn vTuple fa)) := (pd_tuple hm ha hg hs).mono fun _ _ _ h => dV_b1 vTuple_ok h
theorem pv_sorted (hc : X.calm = true) (hr : Room k X.A) (hm : X.mg "sorted" = none) (ha : PD X G a (dVL Y fa)) (hg : Gl X "sorted" := by rfl) (hs : starEach [a] X.env = (false, eval a X.env) :: starEach [] X.env := by rfl) : PD X G (.Call (.Name "sorted" p) [a] [] pos) (dV Y (vUn (vSorted X.w) fa)) :=
  (pd_sorted hc hr hm ha hg hs).mono fun _ _ _ h => dV_b1 (fun vx e q => let ⟨xs, c, s, q⟩ := vSorted_ok vx e q; ⟨_, xs, rfl, c, s, q⟩) h
theorem pv_abs (hm : X.mg "abs" = none) (ha : PD X G a (dV Y fa)) (hg : Gl X "abs" := by rfl) (hs : starEach [a] X.env = (false, eval a X.env) :: starEach [] X.env := by rfl) : PD X G (.Call (.Name "abs" p) [a] [] pos) (dV Y (vUn vAbs fa)) := (pd_abs hm ha hg hs).mono fun _ _ _ h => dV_b1V (fun {x d μ Q} e q => by
  unfold vAbs at e
  split at e
  · cases e; exact q
  · cases e) h
theorem pv_int1 (hm : X.mg "int" = none) (ha : PD X G a (dV Y fa)) (hg : Gl X "int" := by rfl) (hs : starEach [a] X.env = (false, eval a X.env) :: starEach [] X.env := by rfl) : PD X G (.Call (.Name "int" p) [a] [] pos) (dV Y (vUn vInt fa)) := (pd_int1 hm ha hg hs).mono fun _ _ _ h => dV_b1V (fun {x d μ Q} e q => by
  unfold vInt at e
  split at e
  · cases e; exact q
  · cases e; exact q
  · cases e) h
theorem pv_strI (hm : X.mg "str" = none) (ha : PD X G a (dV Y fa)) (hg : Gl X "str" := by rfl) (hs : starEach [a] X.env = (false, eval a X.env) :: starEach [] X.env := by rfl) : PD X G (.Call (.Name "str" p) [a] [] pos) (dV Y (vUn vStrI fa)) := (pd_strI hm ha hg hs).mono fun _ _ _ h => dV_b1V (fun {x d μ Q} e q => by
  unfold vStrI at e
  split at e
  · split at e
    · rename_i c; cases e; exact ⟨c, q⟩
    · cases e
  · cases e) h
theorem pv_sum (hc : X.calm = true) (hm : X.mg "sum" = none) (ha : PD X G a (dV Y fa)) (hg : Gl X "sum" := by rfl) (hs : starEach [a] X.env = (false, eval a X.env) :: starEach [] X.env := by rfl) : PD X G (.Call (.Name "sum" p) [a] [] pos) (dV Y (vUn vSum fa)) := (pd_sum hc hm ha hg hs).mono fun _ _ _ h => dV_b1V vSum_ok h
theorem pv_any (hc : X.calm = true) (hm : X.mg "any" = none) (ha : PD X G a (dV Y fa)) (hg : Gl X "any" := by rfl) (hs : starEach [a] X.env = (false, eval a X.env) :: starEach [] X.env := by rfl) : PD X G (.Call (.Name "any" p) [a] [] pos) (dV Y (vUn vAny fa)) := (pd_any hc hm ha hg hs).mono fun _ _ _ h => dV_b1V vAny_ok h
theorem pv_all (hc : X.calm = true) (hm : X.mg "all" = none) (ha : PD X G a (dV Y fa)) (hg : Gl X "all" := by rfl) (hs : starEach [a] X.env = (false, eval a X.env) :: starEach [] X.env := by rfl) : PD X G (.Call (.Name "all" p) [a] [] pos) (dV Y (vUn vAll fa)) := (pd_all hc hm ha hg hs).mono fun _ _ _ h => dV_b1V vAll_ok h
end
theorem pv_max2 (hc : X.calm = true) (hm : X.mg "max" = none) (hv : bootBuiltins "max" = some (.builtin "max")) (ha : PDA X G (e :: es) (dVA Y r)) (hg : Gl X "max" := by rfl) (he : starEach (e :: es) X.env = (false, eval e X.env) :: starEach es X.env := by rfl)
    (hpl : (backTo pos (starEach es X.env)).any (·.1) = false := by rfl) : PD X G (.Call (.Name "max" p) (e :: es) [] pos) (dV Y (vArg vMax2 r)) := (pd_max2 hc hm hv ha hg he hpl).mono fun _ _ _ h => dV_bA (fun {ds d μ Q} e q => by
  unfold vMax2 at e
  split at e
  · cases e; exact q
  · cases e) h
theorem pv_min2 (hc : X.calm = true) (hm : X.mg "min" = none) (ha : PDA X G (e :: es) (dVA Y r)) (hg : Gl X "min" := by rfl) (he : starEach (e :: es) X.env = (false, eval e X.env) :: starEach es X.env := by rfl)
    (hpl : (backTo pos (starEach es X.env)).any (·.1) = false := by rfl) : PD X G (.Call (.Name "min" p) (e :: es) [] pos) (dV Y (vArg vMin2 r)) := (pd_min2 hc hm ha hg he hpl).mono fun _ _ _ h => dV_bA (fun {ds d μ Q} e q => by
  unfold vMin2 at e
  split at e
  · cases e; exact q
  · cases e) h
def vIs (ans : Ty → Option Bool) (f : Ro → Res D) : Ro → Res D := fun ρ => (f ρ).bind fun x => (Res.of (vIsi ans x)).bind fun z => .ok (.bl z)
theorem pv_isi {ans : Ty → Option Bool} {d : D} {u : Value} (ia : IsA X.K u ans) (hc : ∀ {μ : Mu} {H : Hp} {w : V}, Da X.K μ H w d → ClsV w u) (hm : X.mg "isinstance" = none) (ha : PD X G a (dVL Y fa)) (hb : PD X G b (dC d)) (hg : Gl X "isinstance" := by rfl)
    (he : starEach [a, b] X.env = (false, eval a X.env) :: starEach [b] X.env := by rfl) (he2 : starEach [b] X.env = (false, eval b X.env) :: starEach [] X.env := by rfl) (hpl : (backTo pos (starEach [b] X.env)).any (·.1) = false := by rfl) : PD X G (.Call (.Name "isinstance" p) [a, b] [] pos) (dV Y (vIs ans fa)) :=
  (pd_isi ia hc hm (pda_cons ha (pda_cons hb pda_nil he2) he) hg he hpl).mono fun ρc μ Q ⟨ρ, w, q⟩ => by
    refine ⟨ρ, w, (RQ.bind q).mono fun x q x' vx => ?_⟩
    obtain ⟨z, e, q⟩ := (RQ.bind q).of
    exact vIsi_ok vx e q
/-! ### f-strings -/
def vFmt : D → Option D
  | .str y => if y.length ≤ sizeLine then some (.str y) else none
  | .int i => if i.natAbs.log2 < 1920 then some (.str (toString i)) else none
  | _ => none
theorem pv_fmt (h : PD X G e (dV Y f)) : PD X G (.FormattedValue e (-1) none pos) (dV Y (vUn vFmt f)) := (pd_fmt h).mono fun ρc μ Q ⟨ρ, w, q⟩ => by
  refine ⟨ρ, w, (RQ.bind q).mono fun x q => ?_⟩
  obtain ⟨d, e, q⟩ := q.of
  unfold vFmt at e
  split at e
  · split at e
    · rename_i c; cases e; exact ⟨c, q⟩
    · cases e
  · split at e
    · rename_i c; cases e; exact ⟨c, q⟩
    · cases e
  · cases e
def vJs : List (Ro → Res D) → Str → Ro → Res D
  | [], acc, _ => .ok (.str acc)
  | f :: fs, acc, ρ => (f ρ).bind fun x => match x with
    | .str y => if (acc ++ y).length ≤ sizeLine then vJs fs (acc ++ y) ρ else .no
    | _ => .no
theorem jv {E : Addr → List (Str × D) → Prop} : ∀ {fs : List (Ro → Res D)} {acc : Str} {ρ ρc : Ro} {μ : Mu} {Q : Str → Mu → Prop}, Own Y ρ ρc μ → RQ Y.E (vJs fs acc ρ) (fun d => ∃ z, d = .str z ∧ Q z μ) → dJs (fs.map (dV Y)) acc ρc μ Q
  | [], acc, ρ, ρc, μ, Q, w, q => by
    obtain ⟨z, e, q⟩ := q
    cases e
    exact q
  | f :: fs, acc, ρ, ρc, μ, Q, w, q => by
    refine ⟨ρ, w, (RQ.bind q).mono fun x q => ?_⟩
    cases x with
    | str y =>
      obtain ⟨c, q⟩ := RQ.ite q
      exact ⟨c, jv (E := E) w q⟩
    | _ => exact q.elim
theorem jv_str : ∀ {fs : List (Ro → Res D)} {acc : Str} {ρ : Ro} {E : Addr → List (Str × D) → Prop} {P : D → Prop}, RQ E (vJs fs acc ρ) P → RQ E (vJs fs acc ρ) fun d => ∃ z, d = .str z ∧ P (.str z)
  | [], acc, ρ, E, P, q => ⟨acc, rfl, q⟩
  | f :: fs, acc, ρ, E, P, q => by
    unfold vJs at q ⊢
    cases h : f ρ with
    | ok x =>
      rw [h] at q
      cases x with
      | str y =>
        obtain ⟨c, q⟩ := RQ.ite q
        show RQ E (if (acc ++ y).length ≤ sizeLine then _ else _) _
        rw [if_pos c]
        exact jv_str q
      | _ => exact q.elim
    | er C gs => rw [h] at q; exact q
    | no => rw [h] at q; exact q
theorem pv_joined {v1 v2 : Expr} {fs : List (Ro → Res D)} (h : PDJ X G (v1 :: v2 :: rest) (fs.map (dV Y))) : PD X G (.JoinedStr (v1 :: v2 :: rest) pos) (dV Y (vJs fs Str.empty)) := (pd_joined h).mono fun ρc μ Q ⟨ρ, w, q⟩ => jv (E := Y.E) w (jv_str q)
theorem pv_joined1 (h : PD X G e (dV Y f)) : PD X G (.JoinedStr [e] pos) (dV Y f) := pd_joined1 h
end
end Dl

/-! Pure defs: targets, what is walked, comprehensions, calls, statements. -/
namespace Dl
open PySem PySem.Spec PyProof.Rows L2
/-! ### targets -/
def tgName (i : Nat) : D → Ro → Option Ro := fun d ρ => some (ρ.set i (some d))
def tgNil : List D → Ro → Option Ro := fun ds ρ => match ds with
  | [] => some ρ
  | _ => none
def tgCons (g : D → Ro → Option Ro) (gs : List D → Ro → Option Ro) : List D → Ro → Option Ro := fun ds ρ => match ds with
  | d :: r => match g d ρ with
    | some ρ1 => gs r ρ1
    | none => none
  | _ => none
def tgTup (n : Nat) (gs : List D → Ro → Option Ro) : D → Ro → Option Ro := fun d ρ => match d with
  | .tup ds => if ds.length = n then gs ds ρ else none
  | _ => none
section
variable {X : Cx} {G : Gh} {Y : Pc} {e : Expr} {es : List Expr} {pos : Pos} {g : D → Ro → Option Ro} {gs : List D → Ro → Option Ro} {vs : List Nat}
theorem tgName_ok {i : Nat} (hO : Y.O.contains i = false) {d : D} {ρc : Ro} {μ : Mu} {Q : Ro → Mu → Prop} (h : dVG Y (tgName i) d ρc μ Q) : dName i d ρc μ Q := by
  obtain ⟨ρ, ρ', w, e, k⟩ := h
  cases e
  exact k _ (w.set (by simpa using hO))
theorem tgNil_ok {d : List D} {ρc : Ro} {μ : Mu} {Q : Ro → Mu → Prop} (h : dVGs Y tgNil d ρc μ Q) : dGNil d ρc μ Q := by
  obtain ⟨ρ, ρ', w, e, k⟩ := h
  unfold tgNil at e
  split at e
  · cases e; exact k _ w
  · cases e
theorem tgCons_ok {d : List D} {ρc : Ro} {μ : Mu} {Q : Ro → Mu → Prop} (h : dVGs Y (tgCons g gs) d ρc μ Q) : dGCons (dVG Y g) (dVGs Y gs) d ρc μ Q := by
  obtain ⟨ρ, ρ', w, e, k⟩ := h
  unfold tgCons at e
  split at e
  · split at e
    · rename_i ρ1 e1
      exact ⟨ρ, ρ1, w, e1, fun ρc1 w1 => ⟨ρ1, ρ', w1, e, k⟩⟩
    · cases e
  · cases e
theorem tgTup_ok {n : Nat} {d : D} {ρc : Ro} {μ : Mu} {Q : Ro → Mu → Prop} (h : dVG Y (tgTup n gs) d ρc μ Q) : dGTup n (dVGs Y gs) d ρc μ Q := by
  obtain ⟨ρ, ρ', w, e, k⟩ := h
  unfold tgTup at e
  split at e
  · split at e
    · rename_i c; exact ⟨c, ρ, ρ', w, e, k⟩
    · cases e
  · cases e
theorem gv_name {i : Nat} {x : Str} (hN : X.N.Nodup) (hO : Y.O.contains i = false := by rfl) (hi : X.N[i]? = some x := by rfl) (hx : Loc X.env.scope x := by first | exact .inl rfl | exact .inr rfl) (hf : X.fn x = true ∨ X.env.scope.names.lookup x = some .local := by first | exact .inl rfl | exact .inr rfl | assumption) : PDG X G (.Name x pos) (dVG Y (tgName i)) :=
  (dg_name hN hi hx hf).mono fun _ _ _ _ h => tgName_ok hO h
theorem gvs_nil : PDGs X G [] (dVGs Y tgNil) := dgs_nil.mono fun _ _ _ _ h => tgNil_ok h
theorem gvs_cons (h1 : PDG X G e (dVG Y g)) (h2 : PDGs X G es (dVGs Y gs)) (hs : (assignEach (e :: es) X.env).map (·.2) = assign e X.env :: (assignEach es X.env).map (·.2) := by rfl) : PDGs X G (e :: es) (dVGs Y (tgCons g gs)) := (dgs_cons h1 h2 hs).mono fun _ _ _ _ h => tgCons_ok h
theorem gv_tup {k : Nat} (hc : X.calm = true) (h : PDGs X G es (dVGs Y gs)) (hn : (assignEach es X.env).length = es.length := by rfl) (hst : (assignEach es X.env).findIdx? (·.1) = none := by rfl) : PDG X G (.Tuple es k pos) (dVG Y (tgTup es.length gs)) := (dg_tup hc h hn hst).mono fun _ _ _ _ h => tgTup_ok h
/-! of comprehensions -/
theorem PCG.mono {t t' : DG} (h : PCG X G vs e t) (k : ∀ d ρ μ R, t' d ρ μ R → t d ρ μ R) : PCG X G vs e t' := ⟨⟨fun pins s σ H v u Q I r ⟨d, ρ, μ, Qd, o, hd, q, z⟩ => h.ok.run pins s σ H v u Q I r ⟨d, ρ, μ, Qd, o, hd, k _ _ _ _ q, z⟩⟩⟩
theorem PCGs.mono {t t' : DGs} (h : PCGs X G vs es t) (k : ∀ d ρ μ R, t' d ρ μ R → t d ρ μ R) : PCGs X G vs es t' := ⟨⟨fun pins s σ H v u Q I r ⟨d, ρ, μ, Qd, o, hd, q, z⟩ => h.ok.run pins s σ H v u Q I r ⟨d, ρ, μ, Qd, o, hd, k _ _ _ _ q, z⟩⟩⟩
theorem cv_name {i : Nat} {x : Str} (hN : X.N.Nodup) (hm : i ∈ vs := by decide) (hO : Y.O.contains i = false := by rfl) (hi : X.N[i]? = some x := by rfl) (hx : Loc X.env.scope x := by first | exact .inl rfl | exact .inr rfl) (hf : X.fn x = true ∨ X.env.scope.names.lookup x = some .local := by first | exact .inl rfl | exact .inr rfl | assumption) : PCG X G vs (.Name x pos) (dVG Y (tgName i)) :=
  (cg_name hN hm hi hx hf).mono fun _ _ _ _ h => tgName_ok hO h
theorem cvs_nil : PCGs X G vs [] (dVGs Y tgNil) := cgs_nil.mono fun _ _ _ _ h => tgNil_ok h
theorem cvs_cons (h1 : PCG X G vs e (dVG Y g)) (h2 : PCGs X G vs es (dVGs Y gs)) (hs : (assignEach (e :: es) X.env).map (·.2) = assign e X.env :: (assignEach es X.env).map (·.2) := by rfl) : PCGs X G vs (e :: es) (dVGs Y (tgCons g gs)) := (cgs_cons h1 h2 hs).mono fun _ _ _ _ h => tgCons_ok h
theorem cv_tup {k : Nat} (hc : X.calm = true) (h : PCGs X G vs es (dVGs Y gs)) (hn : (assignEach es X.env).length = es.length := by rfl) (hst : (assignEach es X.env).findIdx? (·.1) = none := by rfl) : PCG X G vs (.Tuple es k pos) (dVG Y (tgTup es.length gs)) := (cg_tup hc h hn hst).mono fun _ _ _ _ h => tgTup_ok h
theorem ctv_nil {f : Ro → Res Bool} (hf : f = fun _ => .ok true) : PDTs X G [] (dVT Y f) := ⟨⟨fun pins s σ H Q I ⟨ρ, μ, Qd, o, ⟨ρ', w, q⟩, k⟩ => pdts_nil.ok.run pins s σ H Q I ⟨ρ, μ, Qd, o, by subst hf; exact q, k⟩⟩⟩
end
def vYes : Ro → Res Bool := fun _ => .ok true
/-! ### what is walked -/
section
variable {X : Cx} {G : Gh} {Y : Pc} {e a : Expr} {pos p : Pos} {f : Ro → Res D}
def dRowP (te : DE) : DI := fun ρ μ R => te ρ μ fun x μ1 => ∃ xs, rowOf μ1 x = some xs ∧ (xs.length ≤ sizeLine → R xs (fun μ => rowOf μ x = some xs) μ1)
theorem di_rowP {te : DE} {tg : Expr} (he : PD X G e te) : PDI X G tg e (dRowP te) := by
  obtain ⟨ea, pa, fa⟩ := he.ex
  refine ⟨fun σ H R => ea σ H fun x H1 => ∃ a, x = .ref a ∧ ((∃ xs, SqL X.K H1 a xs ∧ (xs.length ≤ sizeLine → R (Itl X.K a) H1)) ∨ (∃ xs, SqT X.K H1 a xs ∧ (xs.length ≤ sizeLine → R (Itt X.K a) H1))), ⟨fun pins s σ H R I h => ?_⟩, @fun σ H ρ μ R Rd o t k => fa o t fun x dx H1 μ1 g1 j1 h1 t1 => ?_⟩
  · refine thn (pa.run pins s σ H _ I h) fun u s1 hx => ?_
    obtain ⟨x, H1, I1, rx, c, rfl, q⟩ := hx
    obtain rfl : u = Value.ref c := rx
    rcases q with ⟨xs, hq, q⟩ | ⟨xs, hq, q⟩
    · obtain ⟨its, rv, pl, hz⟩ := I1.list hq
      exact wpAny_pyIter_list pl.isList (pi_one (tk := s1.toks) I1 _ (turn_list c _) ⟨_, Heap.get?_push_size _ rfl, rfl, rfl⟩ (q hz))
    · obtain ⟨its, rv, pl, hz⟩ := I1.tuple hq
      exact wpAny_pyIter_tuple (show s1.heap.IsTuple c its.toArray from pl) (pi_one (tk := s1.toks) I1 _ (turn_tuple c _) ⟨_, Heap.get?_push_size _ rfl, rfl, rfl⟩ (q hz))
  · obtain ⟨xs, e1, t1⟩ := t1
    by_cases ht : ∃ ys, dx = .tup ys
    · obtain ⟨ys, rfl⟩ := ht
      have ey : ys = xs := by simpa [rowOf, vw] using e1
      subst ey
      cases h1 with
      | tup q l =>
        refine ⟨_, rfl, .inr ⟨_, Da.sqT q, fun hz => k _ _ _ _ _ g1 j1 (it_tup fun μ H g j _ => ⟨_, ?_, l.grow g⟩) (t1 (l.length ▸ hz))⟩⟩
        refine Da.sqT (μ := μ) ?_
        rcases q with ⟨n, ob, e, z⟩ | q
        · exact .inl ⟨g.out n e, ob, g.keep _ _ n e, z⟩
        · exact .inr q
    · have nt : ∀ {μ : Mu} {H : Hp} {v : V}, J X.K μ H → Da X.K μ H v dx → rowOf μ dx = some xs → ∃ a vs, v = .ref a ∧ SqL X.K H a vs ∧ DaL X.K μ H vs xs := by
        intro μ H v jj h e
        rcases row_of e with c | c | c
        · obtain ⟨aa, vs, f1, f2, l⟩ := h.nowL jj c
          exact ⟨aa, vs, f1, SqL.of f2, l⟩
        · exact h.nowS jj c
        · exact absurd ⟨xs, vw_inv c (fun _ z => nomatch z)⟩ ht
      obtain ⟨aa, vs, rfl, sq, l⟩ := nt j1 h1 e1
      refine ⟨aa, rfl, .inl ⟨_, sq, fun hz => k _ _ _ _ _ g1 j1 (it_list fun μ H g j sr => ?_) (t1 (l.length ▸ hz))⟩⟩
      obtain ⟨a2, ws, e2, sq2, l2⟩ := nt j (h1.grow g) sr
      cases e2
      exact ⟨ws, sq2, l2⟩
def vRows (f : Ro → Res D) : Ro → Res (List D) := fun ρ => (f ρ).bind fun x => Res.of (rowD x)
theorem rowOf_row {x : D} {xs : List D} (h : rowD x = some xs) (μ : Mu) : rowOf μ x = some xs := by cases x <;> first | exact h | simp [rowD] at h
theorem iv_row {tg : Expr} (h : PD X G e (dV Y f)) : PDI X G tg e (dVI Y (vRows f)) := (di_rowP h).mono fun ρc μ R ⟨ρ, w, q⟩ => by
  refine ⟨ρ, w, (RQ.bind q).mono fun x q => ?_⟩
  obtain ⟨xs, e, q⟩ := q.of
  exact ⟨xs, rowOf_row e μ, fun hz => q hz _ fun μ' => rowOf_row e μ'⟩
theorem jv_row {tg : Expr} (h : PD X G e (dVL Y f)) : PDI X G tg e (dVJ Y (vRows f)) := (di_rowP h).mono fun ρc μ R ⟨ρ, w, q⟩ => by
  refine ⟨ρ, w, (RQ.bind q).mono fun x q x' vx => ?_⟩
  obtain ⟨xs, e, q⟩ := q.of
  exact ⟨xs, vx.row e, fun hz => q hz _ fun μ' ex => Ext.row ex (vx.row e)⟩
def vRng (f : Ro → Res D) : Ro → Res (List D) := fun ρ => (f ρ).bind fun x => (Res.of (intD x)).bind fun j => if -(2 ^ 62) ≤ j ∧ j < 2 ^ 62 then .ok (rng 0 j.toNat) else .no
/-- a range, counted for comprehensions -/
def vRngC (f : Ro → Res D) : Ro → Res (List D) := fun ρ => (f ρ).bind fun x => (Res.of (intD x)).bind fun j => if -(2 ^ 62) ≤ j ∧ j < 2 ^ 62 ∧ j.toNat ≤ sizeLine then .ok (rng 0 j.toNat) else .no
/-- for loops, of which no length is asked -/
def dVF (Y : Pc) (f : Ro → Res (List D)) : DI := fun ρc μ R => ∃ ρ, Own Y ρ ρc μ ∧ RQ Y.E (f ρ) fun xs => ∀ src : Mu → Prop, (∀ μ', src μ') → R xs src μ
theorem fv_row {tg : Expr} (h : PD X G e (dV Y f)) : PDI X G tg e (dVF Y (vRows f)) := (iv_row h).mono fun ρc μ R ⟨ρ, w, q⟩ => ⟨ρ, w, q.mono fun xs k _ => k⟩
theorem fv_rng {tg : Expr} (hm : X.mg "range" = none) (ha : PD X G a (dV Y f)) (hg : Gl X "range" := by rfl) (hs : starEach [a] X.env = [(false, eval a X.env)] := by rfl) (hs' : starEach [a] X.env = (false, eval a X.env) :: starEach [] X.env := by rfl) : PDI X G tg (.Call (.Name "range" p) [a] [] pos) (dVF Y (vRng f)) :=
  (di_range1 hm (pda_cons ha pda_nil hs') hg hs).mono fun ρc μ R ⟨ρ, w, q⟩ => by
    refine ⟨ρ, w, (RQ.bind q).mono fun x q => ?_⟩
    obtain ⟨j, e, q⟩ := (RQ.bind q).of
    rw [intD_inv e]
    obtain ⟨c, q⟩ := RQ.ite q
    exact ⟨c.1, c.2, q _ fun _ => trivial⟩
theorem jv_rng {tg : Expr} (hm : X.mg "range" = none) (ha : PD X G a (dV Y f)) (hg : Gl X "range" := by rfl) (hs : starEach [a] X.env = [(false, eval a X.env)] := by rfl) (hs' : starEach [a] X.env = (false, eval a X.env) :: starEach [] X.env := by rfl) : PDI X G tg (.Call (.Name "range" p) [a] [] pos) (dVJ Y (vRngC f)) :=
  (di_range1 hm (pda_cons ha pda_nil hs') hg hs).mono fun ρc μ R ⟨ρ, w, q⟩ => by
    refine ⟨ρ, w, (RQ.bind q).mono fun x q => ?_⟩
    obtain ⟨j, e, q⟩ := (RQ.bind q).of
    rw [intD_inv e]
    obtain ⟨c, q⟩ := RQ.ite q
    exact ⟨c.1, c.2.1, q (by rw [rng_len]; exact c.2.2) _ fun _ _ => trivial⟩
end
/-! ### comprehensions -/
def vCol (F : D → Res (Option D)) : List D → Res (List D)
  | [] => .ok []
  | x :: xs => (F x).bind fun o => (vCol F xs).bind fun ys => .ok (match o with | some y => y :: ys | none => ys)
def vItem (g : D → Ro → Option Ro) (tt : Ro → Res Bool) (te : Ro → Res D) (ρ : Ro) (x : D) : Res (Option D) := match g x ρ with
  | some ρ1 => (tt ρ1).bind fun z => if z = true then (te ρ1).bind fun y => .ok (some y) else .ok none
  | none => .no
def vLc (fi : Ro → Res (List D)) (g : D → Ro → Option Ro) (tt : Ro → Res Bool) (te : Ro → Res D) (vs : List Nat) : Ro → Res D := fun ρ => (fi ρ).bind fun xs => (vCol (vItem g tt te (wipeD ρ vs)) xs).tot.bind fun ys => .ok (.lst ys)
section
variable {X : Cx} {G : Gh} {Y : Pc} {pos : Pos}
theorem vLc_ok {fi : Ro → Res (List D)} {g : D → Ro → Option Ro} {tt : Ro → Res Bool} {te : Ro → Res D} {vs : List Nat} (hs : (Y.self.isNone || vs.all (· != 0)) = true) {ρc : Ro} {μ : Mu} {Q : DQ} (h : dV Y (vLc fi g tt te vs) ρc μ Q) :
    dLc (dVJ Y fi) (dVG Y.calm g) (dVT Y.calm tt) (dV Y.calm te) vs ρc μ Q := by
  obtain ⟨ρ, w, q⟩ := h
  refine ⟨ρ, w, (RQ.bind q).mono fun xs q hz src hsrc E nE => ?_⟩
  have ex : Ext μ (mup μ E .hid) := Ext.hid nE
  have w' : Own Y.calm (wipeD ρ vs) (wipeD ρc vs) (mup μ E .hid) := ((w.more ex).wipe vs hs).calm
  cases hv : vCol (vItem g tt te (wipeD ρ vs)) xs with
  | er C fs => rw [hv] at q; exact q.elim
  | no => rw [hv] at q; exact q.elim
  | ok ys =>
    rw [hv] at q
    have q : Q (.lst ys) μ := q
    refine ⟨fun i acc μ' => μ' = mup μ E .hid ∧ acc.length ≤ i ∧ ∃ r, vCol (vItem g tt te (wipeD ρ vs)) (xs.drop i) = .ok r ∧ acc ++ r = ys, ⟨rfl, Nat.le_refl _, ys, hv, rfl⟩, fun i acc μ' z => z.1 ▸ hsrc _ ex, ?_, ?_⟩
    · rintro i x acc μ' hx ⟨rfl, hl, r, hr, he⟩
      obtain ⟨hi, rfl⟩ := List.getElem?_eq_some_iff.mp hx
      rw [List.drop_eq_getElem_cons hi] at hr
      rw [vCol, vItem] at hr
      cases hg : g xs[i] (wipeD ρ vs) with
      | none => simp only [hg, Res.bind] at hr; cases hr
      | some ρ1 =>
        simp only [hg] at hr
        refine ⟨_, ρ1, w', hg, fun ρc1 w1 => ⟨ρ1, w1, ?_⟩⟩
        cases ht : tt ρ1 with
        | er C fs => simp only [ht, Res.bind] at hr; cases hr
        | no => simp only [ht, Res.bind] at hr; cases hr
        | ok z =>
          simp only [ht, Res.bind] at hr
          show (if z = true then _ else _)
          cases z with
          | false =>
            simp only [Bool.false_eq_true, if_false] at hr
            rw [if_neg (by decide)]
            cases hc : vCol (vItem g tt te (wipeD ρ vs)) (xs.drop (i + 1)) with
            | er C fs => simp only [hc] at hr; cases hr
            | no => simp only [hc] at hr; cases hr
            | ok r' =>
              simp only [hc] at hr
              cases hr
              exact ⟨rfl, by omega, _, (by first | exact hc | rfl), he⟩
          | true =>
            simp only [if_true] at hr
            rw [if_pos rfl]
            refine ⟨ρ1, w1, ?_⟩
            cases hy : te ρ1 with
            | er C fs => simp only [hy] at hr; cases hr
            | no => simp only [hy] at hr; cases hr
            | ok y =>
              simp only [hy] at hr
              cases hc : vCol (vItem g tt te (wipeD ρ vs)) (xs.drop (i + 1)) with
              | er C fs => simp only [hc] at hr; cases hr
              | no => simp only [hc] at hr; cases hr
              | ok r' =>
                simp only [hc] at hr
                cases hr
                exact ⟨by omega, rfl, by simp only [List.length_append, List.length_singleton]; omega, r', (by first | exact hc | rfl), by rw [List.append_assoc]; exact he⟩
    · rintro acc μ' ⟨rfl, _, r, hr, he⟩
      rw [List.drop_length] at hr
      cases hr
      rw [mdel_mup nE, show acc = ys by simpa using he]
      exact q
theorem pv_lc {elt tg iter : Expr} {ifs : List Expr} {scope : Scope} (own : List (Str × Nat)) {fi : Ro → Res (List D)} {g : D → Ro → Option Ro} {tt : Ro → Res Bool} {te : Ro → Res D} (hc : X.calm = true) (hN : X.N.Nodup) (hi : PDI X G tg iter (dVJ Y fi)) (ok : BlkOk X.N X.env.scope scope own)
    (hg : ∀ (s : Shared) (H : Hp) (C : Addr) (cl : List (Str × Addr)) (fp : List Addr), PCG (X.blk s H scope (compEnvC scope cl C X.env) fp) G (own.map (·.2)) tg (dVG Y.calm g)) (ht : ∀ (s : Shared) (H : Hp) (C : Addr) (cl : List (Str × Addr)) (fp : List Addr), PDTs (X.blk s H scope (compEnvC scope cl C X.env) fp) G ifs (dVT Y.calm tt))
    (he : ∀ (s : Shared) (H : Hp) (C : Addr) (cl : List (Str × Addr)) (fp : List Addr), PD (X.blk s H scope (compEnvC scope cl C X.env) fp) G elt (dV Y.calm te)) (hs : ∀ x, foldedSetIterable iter X.env x = pure x := by intro _; rfl) (hv : (Y.self.isNone || (own.map (·.2)).all (· != 0)) = true := by rfl) :
    PD X G (.ListComp elt [⟨tg, iter, ifs, 0⟩] scope pos) (dV Y (vLc fi g tt te (own.map (·.2)))) := (pd_lc own hc hN hi ok hg ht he hs).mono fun _ _ _ h => vLc_ok hv h
end
/-! ### statements -/
def SR.of {α : Type} (r : Res α) (k : α → SR) : SR := match r with
  | .ok a => k a
  | .er C fs => .er C fs
  | .no => .no
theorem SQ.of {α : Type} {Y : Pc} {r : Res α} {k : α → SR} {D' : DEnds} (h : SQ Y (SR.of r k) D') : RQ Y.E r fun a => SQ Y (k a) D' := by cases r <;> exact h
def SR.bind (r : SR) (k : Ro → SR) : SR := match r with
  | .nx ρ => k ρ
  | r => r
def vSeq (s t : Ro → SR) : Ro → SR := fun ρ => (s ρ).bind t
def vNext : Ro → SR := .nx
def vSet (f : Ro → Res D) (i : Nat) : Ro → SR := fun ρ => SR.of (f ρ) fun d => .nx (ρ.set i (some d))
def vAsg (f : Ro → Res D) (g : D → Ro → Option Ro) : Ro → SR := fun ρ => SR.of (f ρ) fun d => match g d ρ with | some ρ' => .nx ρ' | none => .no
def vPar (i j : Nat) (r : Ro → Res (List D)) : Ro → SR := fun ρ => SR.of (r ρ) fun ds => match ds with
  | [x, y] => .nx ((ρ.set i (some x)).set j (some y))
  | _ => .no
def vDrop (f : Ro → Res D) : Ro → SR := fun ρ => SR.of (f ρ) fun _ => .nx ρ
def vIf (t : Ro → Res Bool) (s u : Ro → SR) : Ro → SR := fun ρ => SR.of (t ρ) fun z => if z = true then s ρ else u ρ
def vRet (f : Ro → Res D) : Ro → SR := fun ρ => SR.of (f ρ) .rt
def vRetN : Ro → SR := fun _ => .rt .non
def vRaise (C : Addr) (r : Ro → Res (List D)) (fs : List Str) : Ro → SR := fun ρ => SR.of (r ρ) fun ds => if ds.length = fs.length then .er C (fs.zip ds).reverse else .no
/-- a for: the items, one after another -/
def vTurns (g : D → Ro → Option Ro) (b : Ro → SR) : List D → Ro → SR
  | [], ρ => .nx ρ
  | x :: xs, ρ => match g x ρ with
    | none => .no
    | some ρ1 => match b ρ1 with
      | .nx ρ2 => vTurns g b xs ρ2
      | .ct ρ2 => vTurns g b xs ρ2
      | .bk ρ2 => .nx ρ2
      | r => r
def vFor (fi : Ro → Res (List D)) (g : D → Ro → Option Ro) (b : Ro → SR) : Ro → SR := fun ρ => SR.of (fi ρ) fun xs => vTurns g b xs ρ
/-- a while: some turns are enough -/
def vWhileN (t : Ro → Res Bool) (b : Ro → SR) : Nat → Ro → SR
  | 0, _ => .no
  | n + 1, ρ => SR.of (t ρ) fun z => if z = true then match b ρ with
      | .nx ρ2 => vWhileN t b n ρ2
      | .ct ρ2 => vWhileN t b n ρ2
      | .bk ρ2 => .nx ρ2
      | r => r
    else .nx ρ
section
variable {X : Cx} {G : Gh} {Y : Pc} {e a b o : Expr} {es : List Expr} {pos p pos' : Pos} {f : Ro → Res D} {st : Stmt} {sts rest : List Stmt} {s u : Ro → SR} {t : Ro → Res Bool} {r : Ro → Res (List D)} {g : D → Ro → Option Ro}
theorem sv_nil : PDSs X G [] (dVS Y vNext) := ds_nil.mono fun D' ρc μ ⟨ρ, w, q⟩ => q _ _ w
theorem sv_one (h : PDS X G st (dVS Y s)) : PDSs X G [st] (dVS Y s) := ds_one h
theorem sv_cons (h1 : PDS X G st (dVS Y s)) (h2 : PDSs X G rest (dVS Y u)) : PDSs X G (st :: rest) (dVS Y (vSeq s u)) := (ds_cons h1 h2).mono fun D' ρc μ ⟨ρ, w, q⟩ => by
  refine ⟨ρ, w, ?_⟩
  unfold vSeq SR.bind at q
  cases h : s ρ with
  | nx ρ' => rw [h] at q; exact fun ρc' μ' w' => ⟨ρ', w', q⟩
  | rt d => rw [h] at q; exact q
  | bk ρ' => rw [h] at q; exact q
  | ct ρ' => rw [h] at q; exact q
  | er C fs => rw [h] at q; exact q
  | no => rw [h] at q; exact q
theorem sv_set {i : Nat} {x : Str} (hN : X.N.Nodup) (he : PD X G e (dV Y f)) (hO : Y.O.contains i = false := by rfl) (hi : X.N[i]? = some x := by rfl) (hx : Loc X.env.scope x := by first | exact .inl rfl | exact .inr rfl) (hs : swapsWith e (some (.Name x pos')) pos.line X.env = pure false := by rfl)
    (hf : X.fn x = true ∨ X.env.scope.names.lookup x = some .local := by first | exact .inl rfl | exact .inr rfl | assumption) : PDS X G (.Assign [.Name x pos'] e pos) (dVS Y (vSet f i)) := (ds_set hN he hi hx hs hf).mono fun D' ρc μ ⟨ρ, w, q⟩ =>
  ⟨ρ, w, (SQ.of q).mono fun d q => q _ _ (w.set (by simpa using hO))⟩
theorem sv_asg {tg : Expr} (he : PD X G e (dV Y f)) (hg : PDG X G tg (dVG Y g)) (hs : swapsWithSole [tg] e pos.line X.env = pure false := by rfl) (hw : swappedStores [tg] e X.env = pure none := by rfl)
    (h1 : (assignEach [tg] X.env).map (·.2) = [assign tg X.env] := by rfl) : PDS X G (.Assign [tg] e pos) (dVS Y (vAsg f g)) := (ds_asg he hg hs hw h1).mono fun D' ρc μ ⟨ρ, w, q⟩ => by
  refine ⟨ρ, w, (SQ.of q).mono fun d q => ?_⟩
  cases h : g d ρ with
  | none => simp only [h] at q; exact q.elim
  | some ρ' => simp only [h] at q; exact ⟨ρ, ρ', w, h, fun ρc' w' => q _ _ w'⟩
theorem sv_setLc {i : Nat} {y : Str} {py spos : Pos} {elt tg iter : Expr} {ifs : List Expr} {scope : Scope} (own : List (Str × Nat)) {fi : Ro → Res (List D)} {tt : Ro → Res Bool} {te : Ro → Res D} (hc : X.calm = true) (hN : X.N.Nodup) (hi : PDI X G tg iter (dVJ Y fi)) (ok : BlkOk X.N X.env.scope scope own)
    (hg : ∀ (s : Shared) (H : Hp) (C : Addr) (cl : List (Str × Addr)) (fp : List Addr), PCG (X.blk s H scope (compEnvC scope cl C X.env) fp) G (own.map (·.2)) tg (dVG Y.calm g)) (ht : ∀ (s : Shared) (H : Hp) (C : Addr) (cl : List (Str × Addr)) (fp : List Addr), PDTs (X.blk s H scope (compEnvC scope cl C X.env) fp) G ifs (dVT Y.calm tt))
    (he : ∀ (s : Shared) (H : Hp) (C : Addr) (cl : List (Str × Addr)) (fp : List Addr), PD (X.blk s H scope (compEnvC scope cl C X.env) fp) G elt (dV Y.calm te)) (hO : Y.O.contains i = false := by rfl) (hy : X.N[i]? = some y := by rfl) (hyl : X.env.scope.names.lookup y = some .local := by rfl)
    (hsw : swapsWith (.ListComp elt [⟨tg, iter, ifs, 0⟩] scope pos) (some (.Name y py)) spos.line X.env = pure true := by exact sw_true rfl rfl rfl rfl) (hs : ∀ x, foldedSetIterable iter X.env x = pure x := by intro _; rfl) (hv : (Y.self.isNone || (own.map (·.2)).all (· != 0)) = true := by rfl) :
    PDS X G (.Assign [.Name y py] (.ListComp elt [⟨tg, iter, ifs, 0⟩] scope pos) spos) (dVS Y (vSet (vLc fi g tt te (own.map (·.2))) i)) := (ds_setLc own hc hN hi ok hg ht he hy hyl hsw hs).mono fun D' ρc μ ⟨ρ, w, q⟩ =>
  vLc_ok hv ⟨ρ, w, (SQ.of q).mono fun d q => q _ _ (w.set (by simpa using hO))⟩
theorem sv_par {i j : Nat} {x y : Str} {px py pt : Pos} {kt k2 pt2} (hc : X.calm = true) (hN : X.N.Nodup) (ha : PDA X G [a, b] (dVA Y r)) (hOi : Y.O.contains i = false := by rfl) (hOj : Y.O.contains j = false := by rfl) (hi : X.N[i]? = some x := by rfl) (hj : X.N[j]? = some y := by rfl) (hij : i ≠ j := by decide)
    (hx : X.env.scope.names.lookup x = some .local := by rfl) (hy : X.env.scope.names.lookup y = some .local := by rfl)
    (hw : swappedStores [.Tuple [.Name x px, .Name y py] kt pt] (.Tuple [a, b] k2 pt2) X.env = pure (some [x, y]) := by rfl)
    (hs : swapsWithSole [.Tuple [.Name x px, .Name y py] kt pt] (.Tuple [a, b] k2 pt2) pos.line X.env = pure false := by rfl) :
    PDS X G (.Assign [.Tuple [.Name x px, .Name y py] kt pt] (.Tuple [a, b] k2 pt2) pos) (dVS Y (vPar i j r)) := (ds_par hc hN ha hi hj hij hx hy hw hs).mono fun D' ρc μ ⟨ρ, w, q⟩ => by
  refine ⟨ρ, w, (SQ.of q).mono fun ds q => ?_⟩
  split at q
  · exact q _ _ ((w.set (by simpa using hOi)).set (by simpa using hOj))
  · exact q.elim
theorem sv_expr (he : PD X G e (dVL Y f)) (hs : swapsWith e none pos.line X.env = pure false := by rfl) : PDS X G (.Expr e pos) (dVS Y (vDrop f)) := (ds_expr he hs).mono fun D' ρc μ ⟨ρ, w, q⟩ => ⟨ρ, w, (SQ.of q).mono fun d q d' _ => q _ _ w⟩
theorem sv_if {c : Expr} {x y : List Stmt} (hc : PDT X G c (dVT Y t)) (ha : PDSs X G x (dVS Y s)) (hb : PDSs X G y (dVS Y u)) : PDS X G (.If c x y pos) (dVS Y (vIf t s u)) := (ds_if hc ha hb).mono fun D' ρc μ ⟨ρ, w, q⟩ => by
  refine ⟨ρ, w, (SQ.of q).mono fun z q => ?_⟩
  cases z <;> exact ⟨ρ, w, q⟩
theorem sv_ret (he : PD X G e (dVL Y f)) : PDS X G (.Return (some e) pos) (dVS Y (vRet f)) := (ds_ret he).mono fun D' ρc μ ⟨ρ, w, q⟩ => ⟨ρ, w, (SQ.of q).mono fun d q d' v => q d' μ v w.keep⟩
theorem sv_retN : PDS X G (.Return none pos) (dVS Y vRetN) := ds_retN.mono fun D' ρc μ ⟨ρ, w, q⟩ => q _ μ (.inl rfl) w.keep
theorem sv_pass : PDS X G (.Pass pos) (dVS Y vNext) := ds_pass.mono fun D' ρc μ ⟨ρ, w, q⟩ => q _ _ w
theorem sv_break : PDS X G (.Break pos) (dVS Y .bk) := ds_break.mono fun D' ρc μ ⟨ρ, w, q⟩ => q _ _ w
theorem sv_continue : PDS X G (.Continue pos) (dVS Y .ct) := ds_continue.mono fun D' ρc μ ⟨ρ, w, q⟩ => q _ _ w
theorem sv_for {tg iter : Expr} {body : List Stmt} {fi : Ro → Res (List D)} (hp : PassesOwn (model X.prog X.w) X.A X.env X.xe) (hc : X.calm = true) (hi : PDI X G tg iter (dVF Y fi)) (hg : PDG X G tg (dVG Y g)) (hb : PDSs X G body (dVS Y s)) (hs : ∀ x, foldedSetIterable iter X.env x = pure x := by intro _; rfl) : PDS X G (.For tg iter body [] pos) (dVS Y (vFor fi g s)) :=
  (ds_for hp hc hi hg hb hs).mono fun D' ρc μ ⟨ρ, w, q⟩ => by
    refine ⟨ρ, w, (SQ.of q).mono fun xs q src hsrc => ?_⟩
    refine ⟨fun i ρc' μ' => ∃ ρ', Own Y ρ' ρc' μ' ∧ SQ Y (vTurns g s (xs.drop i) ρ') D', ⟨ρ, w, q⟩, fun i ρc' μ' _ => hsrc μ', fun i x ρc' μ' hx ⟨ρ', w', q'⟩ => ?_, fun ρc' μ' ⟨ρ', w', q'⟩ => ?_⟩
    · obtain ⟨hi, rfl⟩ := List.getElem?_eq_some_iff.mp hx
      rw [List.drop_eq_getElem_cons hi] at q'
      unfold vTurns at q'
      cases hg : g xs[i] ρ' with
      | none => simp only [hg] at q'; exact q'.elim
      | some ρ1 =>
        simp only [hg] at q'
        refine ⟨ρ', ρ1, w', hg, fun ρc1 w1 => ⟨ρ1, w1, ?_⟩⟩
        cases hs : s ρ1 with
        | nx ρ2 => simp only [hs] at q'; exact fun ρc2 μ2 w2 => ⟨ρ2, w2, q'⟩
        | ct ρ2 => simp only [hs] at q'; exact fun ρc2 μ2 w2 => ⟨ρ2, w2, q'⟩
        | bk ρ2 => simp only [hs] at q'; exact q'
        | rt d => simp only [hs] at q'; exact q'
        | er C fs => simp only [hs] at q'; exact q'
        | no => simp only [hs] at q'; exact q'.elim
    · rw [List.drop_length] at q'
      exact q' _ _ w'
theorem sv_while {c : Expr} {body : List Stmt} (n : Nat) (hp : PassesOwn (model X.prog X.w) X.A X.env X.xe) (hc : PDT X G c (dVT Y t)) (hb : PDSs X G body (dVS Y s)) : PDS X G (.While c body [] pos) (dVS Y (vWhileN t s n)) :=
  (ds_while hp hc hb).mono fun D' ρc μ ⟨ρ, w, q⟩ => by
    refine ⟨fun m ρc' μ' => ∃ ρ', Own Y ρ' ρc' μ' ∧ SQ Y (vWhileN t s m ρ') D', ⟨n, ρ, w, q⟩, fun m ρc' μ' ⟨ρ', w', q'⟩ => ?_⟩
    cases m with
    | zero => exact q'.elim
    | succ m =>
      refine ⟨ρ', w', (SQ.of q').mono fun z q' => ?_⟩
      cases z with
      | false => exact q' _ _ w'
      | true =>
        simp only [if_true] at q' ⊢
        refine ⟨ρ', w', ?_⟩
        cases hs : s ρ' with
        | nx ρ2 => simp only [hs] at q'; exact fun ρc2 μ2 w2 => ⟨m, Nat.lt_succ_self m, ρ2, w2, q'⟩
        | ct ρ2 => simp only [hs] at q'; exact fun ρc2 μ2 w2 => ⟨m, Nat.lt_succ_self m, ρ2, w2, q'⟩
        | bk ρ2 => simp only [hs] at q'; exact q'
        | rt d => simp only [hs] at q'; exact q'
        | er C fs => simp only [hs] at q'; exact q'
        | no => simp only [hs] at q'; exact q'.elim
end
end Dl

/-! Pure defs by their bodies; their calls. -/
namespace Dl
open PySem PySem.Spec PyProof.Rows L2
/-- what a body hands back -/
def outR : SR → Res D
  | .nx _ => .ok .non
  | .rt d => .ok d
  | .er C fs => .er C fs
  | _ => .no
def mOf (N : List Str) (n : Nat) (s : Ro → SR) : List D → Res D := fun ds => if ds.length = n then outR (s (startD N ds)) else .no
/-! ### back to the store of the entry -/
section
variable {K : PySem.W.Frag} {μ0 μ' : Mu} {H H' : Hp} {v : V} {d d' : D}
theorem keep_none (h : ∀ b o, μ0 b = some o → μ' b = some o) : ∀ b, μ' b = none → μ0 b = none := fun b n => by
  cases q : μ0 b with
  | none => rfl
  | some o => rw [h b o q] at n; cases n
theorem gr_back (g : Gr μ0 H μ' H') : Gr μ0 H μ0 H' := ⟨g.keep, fun b h h' => absurd h h', fun b o h h' => ⟨h, (g.hid b o h h').2⟩⟩
theorem j_back (j : J K μ' H') (h : ∀ b o, μ0 b = some o → μ' b = some o) : J K μ0 H' := fun a o q => (j a o (h a o q)).re (keep_none h)
theorem da_back {Y : Pc} (j : J K μ' H') (h : ∀ b o, Y.μ0 b = some o → μ' b = some o) (vw : Vw Y μ' d' d) (hd : Da K μ' H' v d') : Da K Y.μ0 H' v d := by
  rcases vw with rfl | ⟨a, o, rfl, h1, h2, h3⟩
  · exact hd.re (keep_none h)
  · cases hd
    have m := keep_none h
    have ok := j a o h1
    cases o with
    | lst xs => cases h2; obtain ⟨vs, e, l⟩ := ok; exact .lst h3 e (l.re m)
    | dK kvs => cases h2; obtain ⟨vs, e, l⟩ := ok; exact .dK h3 e (l.re m)
    | dN w kvs => cases h2; obtain ⟨vs, e, l⟩ := ok; exact .dN h3 e (l.re m)
    | ins C fs => cases h2; obtain ⟨dx, fv, e, l⟩ := ok; exact .obj h3 e (l.re m)
    | _ => cases h2
/-- the dict of an error is put to the store of the entry -/
theorem gr_err {dd : Addr} {fs : List (Str × D)} (g : Gr μ0 H μ' H') (n : μ0 dd = none) (e : μ' dd = some (.xd fs)) : Gr μ0 H (mup μ0 dd (.xd fs)) H' where
  keep := g.keep
  new := fun b h h' => by
    by_cases c : b = dd
    · exact g.new b h (by rw [c, e]; simp)
    · rw [mup_ne c] at h'; exact absurd h h'
  hid := fun b o h h' => by
    have c : b ≠ dd := fun c => by rw [c, n] at h; cases h
    exact ⟨by rw [mup_ne c]; exact h, (g.hid b o h h').2⟩
theorem j_err {dd : Addr} {fs : List (Str × D)} (j : J K μ' H') (h : ∀ b o, μ0 b = some o → μ' b = some o) (e : μ' dd = some (.xd fs)) : J K (mup μ0 dd (.xd fs)) H' := by
  have m : ∀ b, μ' b = none → mup μ0 dd (.xd fs) b = none := fun b n => by
    have c : b ≠ dd := fun c => by rw [c, e] at n; cases n
    rw [mup_ne c]
    exact keep_none h b n
  intro a o q
  by_cases c : a = dd
  · rw [c, mup_same] at q
    cases q
    rw [c]
    exact (j dd _ e).re m
  · rw [mup_ne c] at q
    exact (j a o (h a o q)).re m
end
/-! ### a pure def -/
section
variable {P : Program} {w : World} {K : PySem.W.Frag} {mg : Str → Option Value} {base : Heap} {k : Nat} {f : Addr} {fd : FuncData} {ps N : List Str} {x qual : Str} {st : Stmt} {s : Ro → SR} {O : List Nat}
theorem spP_len {n : Nat} {ds : List D} {μ : Mu} {Q : DQ} {Ed : DXE} (h : spP (mOf N n s) ds μ Q Ed) : ds.length = n := by
  by_cases c : ds.length = n
  · exact c
  · simp only [spP, mOf, if_neg c] at h; exact h.elim
theorem start_slot {N : List Str} {ds : List D} {i : Nat} (h : ds.length ≤ i) : slot (startD N ds) i = none := by
  rw [slot_eq]
  unfold startD
  by_cases c : i < (ds.map some ++ List.replicate (N.length - ds.length) (none : Option D)).length
  · rw [List.getElem?_append_right (by simpa using h)]
    rw [List.getElem?_replicate]
    split <;> rfl
  · rw [List.getElem?_eq_none (by omega)]; rfl
theorem own_start {μ0 : Mu} {E : Addr → List (Str × D) → Prop} {ds : List D} (hO : O.all (ds.length ≤ ·) = true) : Own ⟨μ0, O, E, none⟩ (startD N ds) (startD N ds) μ0 := by
  have z : ∀ i ∈ O, slot (startD N ds) i = none := fun i hi => start_slot (by simpa using List.all_eq_true.mp hO i hi)
  refine ⟨fun _ _ h => h, rfl, fun _ _ => rfl, fun i hi d hd => ?_, fun i hi j hj _ h => absurd (z i hi) h, fun a ha => ?_⟩
  · rw [z i hi] at hd; cases hd
  · cases ha
theorem pure_body {X : Cx} {H : Hp} {μ0 : Mu} {vs : List V} {ds : List D} {Q : VK} {Qd : DQ} {E : XK} {Ed : DXE} {B : List Stmt} (tk : Takes X (fun cls d _ H' => E cls d H')) (j : J X.K μ0 H) (l : DaL X.K μ0 H vs ds) (hO : O.all (ps.length ≤ ·) = true)
    (q : spP (mOf N ps.length s) ds μ0 Qd Ed) (kk : Kt X.K μ0 H Q Qd) (ke : KtE X.K μ0 H E Ed)
    (body : ∀ (G : Gh) (E : Addr → List (Str × D) → Prop), Wx X G (EdY ⟨μ0, O, E, none⟩) → PDSs X G B (dVS ⟨μ0, O, E, none⟩ s)) :
    ∃ ts, PSs X B ts ∧ ts { nx := fun _ H' => Q .non H', rt := Q } (start N vs) H := by
  have hl := spP_len q
  simp only [spP, mOf, if_pos hl] at q
  have wx : Wx X (ghost μ0 H) (EdY ⟨μ0, O, fun C fs => ∀ dd, μ0 dd = none → Ed C dd (mup μ0 dd (.xd fs)), none⟩) := ⟨tk.imp fun c d σ H' h => by
    obtain ⟨C, dd, ρ, μ', rfl, rfl, o, fs, e1, e2, e3, e4⟩ := h
    exact ke C dd H' _ (gr_err o.g e2 e1) (j_err o.j e3 e1) (e4 dd e2)⟩
  obtain ⟨ts, p, fn⟩ := (body (ghost μ0 H) _ wx).ex
  refine ⟨ts, p, fn (D := { nx := fun _ H' => Q .non H', rt := Q }) (Dd := { nx := fun _ μ' => (∀ b o, μ0 b = some o → μ' b = some o) ∧ Qd .non μ0, rt := fun d' μ' => ∃ d, Vw ⟨μ0, O, fun _ _ => False, none⟩ μ' d' d ∧ (∀ b o, μ0 b = some o → μ' b = some o) ∧ Qd d μ0 }) (start_ok j Gr.refl l) ⟨_, own_start (hl ▸ hO), ?_⟩ ⟨fun σ' H' ρ' μ' g' o' q' => ?_, fun v d' H' μ' g' j' h' q' => ?_, fun _ _ _ _ _ _ z => z.elim, fun _ _ _ _ _ _ z => z.elim⟩⟩
  · cases h : s (startD N ds) with
    | nx ρ' => rw [h] at q; exact fun ρc' μ' w' => ⟨w'.keep, q⟩
    | rt d => rw [h] at q; exact fun d' μ' vw hk => ⟨d, vw, hk, q⟩
    | bk ρ' => rw [h] at q; exact q.elim
    | ct ρ' => rw [h] at q; exact q.elim
    | er C fs => rw [h] at q; exact q
    | no => rw [h] at q; exact q.elim
  · exact kk _ _ _ _ (gr_back g') (j_back o'.j q'.1) .non q'.2
  · obtain ⟨d, vw, hk, q'⟩ := q'
    exact kk _ _ _ _ (gr_back g') (j_back j' hk) (da_back (Y := ⟨μ0, O, fun _ _ => False, none⟩) j' hk vw h') q'
theorem okP (F : Fun K x qual st f fd) (S : FnScope N ps (defScope st)) (O : List Nat) (hO : O.all (ps.length ≤ ·) = true)
    (body : ∀ (X : Cx) (G : Gh) (μ0 : Mu) (E : Addr → List (Str × D) → Prop), (∃ cdv A outer s H E', X = cxOf (CX P w) P w K mg base N qual (defScope st) f cdv A outer s H E') → X.A.guards = some [] → Room k X.A → Wx X G (EdY ⟨μ0, O, E, none⟩) → PassesOwn (model X.prog X.w) X.A X.env X.xe →
      PDSs X G (defBody st) (dVS ⟨μ0, O, E, none⟩ s)) : FnG P w K mg base (CX P w) (k + 1) f fd ps (upX K (spP (mOf N ps.length s))) := by
  refine okG F S (@fun vs H Q E h => ?_) (@fun cdv A outer sh H vs Q E hg hr h => ?_)
  · obtain ⟨ds, μ, Qd, Ed, j, l, q, _⟩ := h
    exact l.length.trans (spP_len q)
  · obtain ⟨ds, μ, Qd, Ed, j, l, q, kk, ke⟩ := h
    exact pure_body (X := cxOf (CX P w) P w K mg base N qual (defScope st) f cdv A outer sh H E) (takes_of rfl rfl rfl rfl) j l hO q kk ke fun G E' wx => body _ G μ E' ⟨cdv, A, outer, sh, H, E, rfl⟩ hg hr wx (passes_of rfl)
theorem okPD {params : Arguments} {dbody : List Stmt} {scope : Scope} {dvs : List V} {kws : List (Str × V)} (F : FunD K x qual params dbody scope dvs kws f fd) (S : FnScope N ps scope) (O : List Nat) (hO : O.all (ps.length ≤ ·) = true)
    (body : ∀ (X : Cx) (G : Gh) (μ0 : Mu) (E : Addr → List (Str × D) → Prop), (∃ cdv A outer s H E', X = cxOf (CX P w) P w K mg base N qual scope f cdv A outer s H E') → X.A.guards = some [] → Room k X.A → Wx X G (EdY ⟨μ0, O, E, none⟩) → PassesOwn (model X.prog X.w) X.A X.env X.xe →
      PDSs X G dbody (dVS ⟨μ0, O, E, none⟩ s)) : FnG P w K mg base (CX P w) (k + 1) f fd ps (upX K (spP (mOf N ps.length s))) := by
  refine okGD F S (@fun vs H Q E h => ?_) (@fun cdv A outer sh H vs Q E hg hr h => ?_)
  · obtain ⟨ds, μ, Qd, Ed, j, l, q, _⟩ := h
    exact l.length.trans (spP_len q)
  · obtain ⟨ds, μ, Qd, Ed, j, l, q, kk, ke⟩ := h
    exact pure_body (X := cxOf (CX P w) P w K mg base N qual scope f cdv A outer sh H E) (takes_of rfl rfl rfl rfl) j l hO q kk ke fun G E' wx => body _ G μ E' ⟨cdv, A, outer, sh, H, E, rfl⟩ hg hr wx (passes_of rfl)
/-- no promise at all -/
theorem okNo {CXx : CXT} {m : List D → Res D} (h : ∀ ds, m ds = .no) : FnG P w K mg base CXx k f fd ps (upX K (spP m)) :=
  ⟨fun {vs H Q E} ⟨ds, μ, Qd, Ed, j, l, q, _⟩ => by unfold spP at q; rw [h ds] at q; exact q.elim, fun {A outer s H args us vs Q E} _ _ _ _ _ ⟨ds, μ, Qd, Ed, j, l, q, _⟩ => by unfold spP at q; rw [h ds] at q; exact q.elim⟩
end
/-! ### calls -/
section
variable {X : Cx} {G : Gh} {Y : Pc} {e a o : Expr} {es : List Expr} {kws : List Keyword} {pos p apos : Pos} {f fo : Ro → Res D} {r r' : Ro → Res (List D)} {n k j : Nat} {ks : List Str} {dd : List D} {ix : List Nat} {x nm : Str} {C : Addr} {m : List D → Res D}
theorem wx_calm : Wx X G (EdY Y.calm) := ⟨fun u s' ⟨a, B, sI, pins, σ, H, cls, d, e, I, nb, up, sky, na, os, ag, C, dd, ρ, μ, _, _, _, fs, _, _, _, no⟩ => no.elim⟩
def vLenA (n : Nat) (r : Ro → Res (List D)) : Ro → Res (List D) := fun ρ => (r ρ).bind fun xs => if xs.length = n then .ok xs else .no
def vBoth (r r' : Ro → Res (List D)) : Ro → Res (List D) := fun ρ => (r ρ).bind fun xs => (r' ρ).bind fun ys => .ok (xs ++ ys)
theorem PDC.mono {t t' : DA} (h : PDC X G pos es kws n ks t) (kk : ∀ ρ μ Q, t' ρ μ Q → t ρ μ Q) : PDC X G pos es kws n ks t' := ⟨fun I hk ok q z => h.go I hk ok (kk _ _ _ q) z⟩
theorem dVA_len {ρc : Ro} {μ : Mu} {Q : List D → Mu → Prop} (h : dVA Y (vLenA n r) ρc μ Q) : dLen n (dVA Y r) ρc μ Q := by
  obtain ⟨ρ, w, q⟩ := h
  exact ⟨ρ, w, (RQ.bind q).mono fun xs q => RQ.ite q⟩
theorem cv_0 : PDC X G pos [] [] 0 [] (dVA Y vNil) := pdc_0.mono fun ρc μ Q ⟨ρ, w, q⟩ => q
theorem cv_p (ha : PDA X G (e :: es) (dVA Y r)) (he : starEach (e :: es) X.env = (false, eval e X.env) :: starEach es X.env := by rfl) (hpl : (backTo pos (starEach es X.env)).any (·.1) = false := by rfl) : PDC X G pos (e :: es) [] n [] (dVA Y (vLenA n r)) :=
  (pdc_p ha he hpl).mono fun _ _ _ h => dVA_len h
theorem cv_k {kw : Keyword} (hkw : PDK X G (kw :: kws) (dVA Y r)) (hall : (backToKw pos (keywordEach (kw :: kws) X.env)).all (·.1.isSome) = true := by rfl) (hks : (backToKw pos (keywordEach (kw :: kws) X.env)).filterMap (·.1) = ks := by rfl)
    (hpl : ((backTo pos (starEach [] X.env)).any (·.1) || (backToKw pos (keywordEach (kw :: kws) X.env)).any (·.1.isNone)) = false := by rfl) : PDC X G pos [] (kw :: kws) 0 ks (dVA Y (vLenA ks.length r)) := (pdc_k hkw hall hks hpl).mono fun _ _ _ h => dVA_len h
def vCall (m : List D → Res D) (dd : List D) (ix : List Nat) (r : Ro → Res (List D)) : Ro → Res D := fun ρ => (r ρ).bind fun ds => m (pick ix (ds ++ dd))
theorem edY_new {ρ ρc ρx : Ro} {μ : Mu} {fs : List (Str × D)} (w : Own Y ρ ρc μ) (q : Y.E C fs) (dd : Addr) (n : μ dd = none) : EdY Y C dd ρx (mup μ dd (.xd fs)) := by
  refine ⟨fs, mup_same, ?_, fun b o hb => ?_, q⟩
  · cases z : Y.μ0 dd with
    | none => rfl
    | some u => rw [w.keep dd u z] at n; cases n
  · rw [mup_ne fun c => by rw [← c, w.keep b o hb] at n; cases n]
    exact w.keep b o hb
theorem spP_go {ds : List D} {ρ ρc : Ro} {μ : Mu} {Q : DQ} (w : Own Y ρ ρc μ) (q : RQ Y.E (m ds) fun d => Q d μ) : spP m ds μ Q fun C d μ' => EdY Y C d ρc μ' := by
  unfold spP
  cases h : m ds with
  | ok d => rw [h] at q; exact q
  | no => rw [h] at q; exact q
  | er C fs =>
    rw [h] at q
    exact edY_new w q
theorem pv_call (wx : Wx X G (EdY Y)) (c : ClX X.prog X.w X.K X.mg X.base k x (spP m) n ks dd ix) (hr : Room j X.A) (hgu : X.A.guards = some []) (ha : PDC X G pos es kws n ks (dVA Y r)) (hk : k ≤ j := by decide) (hg : Gl X x := by rfl) (hdb : (x == ("__debug__" : Str)) = false := by decide) : PD X G (.Call (.Name x p) es kws pos) (dV Y (vCall m dd ix r)) :=
  (pd_cx wx c hr hgu ha hk hg hdb).mono fun ρc μ Q ⟨ρ, w, q⟩ => ⟨ρ, w, (RQ.bind q).mono fun ds q => spP_go w q⟩
/-! methods of what does not change -/
def hasObj (C : Addr) (nm : Str) : D → Bool
  | .obj C' fs => C' == C && (fs.lookup nm).isNone
  | _ => false
theorem hasObj_inv {d : D} (h : hasObj C nm d = true) (μ : Mu) : ∃ fs, oin μ d = some (C, fs) ∧ fs.lookup nm = none := by
  unfold hasObj at h
  split at h
  · rename_i C' fs
    rw [Bool.and_eq_true, beq_iff_eq, Option.isNone_iff_eq_none] at h
    obtain ⟨rfl, h⟩ := h
    exact ⟨_, rfl, h⟩
  · cases h
def vMeth (C : Addr) (nm : Str) (m : List D → Res D) (dd : List D) (ix : List Nat) (fo : Ro → Res D) (r : Ro → Res (List D)) : Ro → Res D := fun ρ => (fo ρ).bind fun x => if hasObj C nm x = true then (r ρ).bind fun ds => m (pick ix (x :: (ds ++ dd))) else .no
theorem pv_me {pl : Sem Bool} (wx : Wx X G (EdY Y)) (c : MeX X.prog X.w X.K X.mg X.base k C nm (spP m) n ks dd ix) (hr : Room j X.A) (hgu : X.A.guards = some []) (ho : PD X G o (dV Y fo)) (ha : PDC X G pos es kws n ks (dVA Y r)) (hk : k ≤ j := by decide)
    (ht : eval (.Call (.Attribute o nm apos) es kws pos) X.env = (do
      let ov ← eval o X.env
      standAt apos.atName
      let (f, first) ← holding [ov] (getMethod ov nm pl)
      callWith pos f first (backTo pos (starEach es X.env)) (backToKw pos (keywordEach kws X.env))) := by rfl) : PD X G (.Call (.Attribute o nm apos) es kws pos) (dV Y (vMeth C nm m dd ix fo r)) :=
  (pd_mx wx c hr hgu ho ha hk ht).mono fun ρc μ Q ⟨ρ, w, q⟩ => by
    refine ⟨ρ, w, (RQ.bind q).mono fun x q => ?_⟩
    obtain ⟨c, q⟩ := RQ.ite q
    exact ⟨hasObj_inv c μ, ρ, w, (RQ.bind q).mono fun ds q => spP_go w q⟩
/-! fields -/
def vFld (C : Addr) (f : Str) : D → Option D
  | .obj C' fs => if C' = C then fs.lookup f else none
  | _ => none
theorem vFld_ok {f : Str} {x x' d : D} {μ : Mu} {Q : DQ} (vx : Vw Y μ x' x) (h : vFld C f x = some d) (q : Q d μ) : gFld C f x' μ Q := by
  unfold vFld at h
  split at h
  · rename_i C' fs
    split at h
    · rename_i c
      subst c
      refine ⟨fs, d, ?_, h, q⟩
      rcases vx with rfl | ⟨a, o, rfl, h1, h2, _⟩
      · rfl
      · rcases obD_inv h2 with ⟨xs, rfl, z⟩ | ⟨kvs, rfl, z⟩ | ⟨w, kvs, rfl, z⟩ | ⟨C, fs, rfl, z⟩
        · cases z
        · cases z
        · cases z
        · cases z; unfold oin; simp only [h1]
    · cases h
  · cases h
theorem pv_fld {f : Str} {ff : Ro → Res D} (c : Cls X.K C) (na : NoAttr X.K C f) (ho : PD X G o (dVL Y ff)) (hb : attributeBase o f X.env (eval o X.env) = eval o X.env := by rfl) : PD X G (.Attribute o f pos) (dV Y (vUn (vFld C f) ff)) := (pd_fld c na ho hb).mono fun ρc μ Q ⟨ρ, w, q⟩ => by
  refine ⟨ρ, w, (RQ.bind q).mono fun x q x' vx => ?_⟩
  obtain ⟨d, e, q⟩ := q.of
  exact vFld_ok vx e q
/-! raise -/
theorem sv_raise1 {f1 : Str} (hc : X.calm = true) (wx : Wx X G (EdY Y)) (c : ErrC X.prog X.w X.K X.mg X.base k x C (sp1 X.K C f1)) (hf : PySem.W.findIn X.K (.ref C) f1 = some none) (hr : Room j X.A) (ha : PDA X G (e :: es) (dVA Y r)) {pos' : Pos} (hk : k + 1 ≤ j := by decide) (hg : Gl X x := by rfl)
    (hdb : (x == ("__debug__" : Str)) = false := by decide) (he : starEach (e :: es) X.env = (false, eval e X.env) :: starEach es X.env := by rfl) (hpl : (backTo pos' (starEach es X.env)).any (·.1) = false := by rfl) :
    PDS X G (.Raise (some (.Call (.Name x p) (e :: es) [] pos')) none pos) (dVS Y (vRaise C r [f1])) := (ds_raise1 hc wx c hf hr ha hk hg hdb he hpl).mono fun D' ρc μ ⟨ρ, w, q⟩ => by
  refine ⟨ρ, w, (SQ.of q).mono fun ds q => ?_⟩
  split at q
  · rename_i hl
    match ds, hl with
    | [d], _ =>
      exact ⟨d, rfl, edY_new w q⟩
  · exact q.elim
theorem sv_raise2 {f1 f2 : Str} (hc : X.calm = true) (wx : Wx X G (EdY Y)) (c : ErrC X.prog X.w X.K X.mg X.base k x C (sp2 X.K C f1 f2)) (hf : PySem.W.findIn X.K (.ref C) f1 = some none) (hf2 : PySem.W.findIn X.K (.ref C) f2 = some none) (hr : Room j X.A) (ha : PDA X G (e :: es) (dVA Y r)) {pos' : Pos} (hk : k + 1 ≤ j := by decide) (hg : Gl X x := by rfl)
    (hdb : (x == ("__debug__" : Str)) = false := by decide) (he : starEach (e :: es) X.env = (false, eval e X.env) :: starEach es X.env := by rfl) (hpl : (backTo pos' (starEach es X.env)).any (·.1) = false := by rfl) :
    PDS X G (.Raise (some (.Call (.Name x p) (e :: es) [] pos')) none pos) (dVS Y (vRaise C r [f1, f2])) := (ds_raise2 hc wx c hf hf2 hr ha hk hg hdb he hpl).mono fun D' ρc μ ⟨ρ, w, q⟩ => by
  refine ⟨ρ, w, (SQ.of q).mono fun ds q => ?_⟩
  split at q
  · rename_i hl
    match ds, hl with
    | [d, d2], _ =>
      exact ⟨d, d2, rfl, edY_new w q⟩
  · exact q.elim
end
end Dl

/-! Pure defs: their own lists and dicts. -/
namespace Dl
open PySem PySem.Spec PyProof.Rows L2
/-! ### what is new, as a value -/
theorem obd_da {K : PySem.W.Frag} {μ : Mu} {H : Hp} {a : Addr} {o : Ob} {d : D} (j : J K μ H) (h1 : μ a = some o) (h2 : obD o = some d) : Da K (mdel μ a) H (.ref a) d := by
  have ok := j a o h1
  cases o with
  | lst xs => cases h2; obtain ⟨vs, e, l⟩ := ok; exact .lst mdel_same e (l.del a)
  | dK kvs => cases h2; obtain ⟨vs, e, l⟩ := ok; exact .dK mdel_same e (l.del a)
  | dN w kvs => cases h2; obtain ⟨vs, e, l⟩ := ok; exact .dN mdel_same e (l.del a)
  | ins C fs => cases h2; obtain ⟨dx, fv, e, l⟩ := ok; exact .obj mdel_same e (l.del a)
  | _ => cases h2
theorem gr_del {μ : Mu} {H : Hp} {a : Addr} {o : Ob} (h : μ a = some o) (nh : o ≠ .hid) : Gr μ H (mdel μ a) H where
  keep := fun _ _ _ h => h
  new := fun b h h' => absurd (mdel_none h) h'
  hid := fun b x q q' => by
    have e : b ≠ a := fun e => nh (by rw [e, h] at q; exact Option.some.inj q)
    exact ⟨by rw [mdel_ne e]; exact q, q'⟩
theorem obD_hid {o : Ob} {d : D} (h : obD o = some d) : o ≠ .hid := fun e => by rw [e] at h; cases h
/-- an expression that makes a thing: from then on it is a value -/
def dFrz (t : DE) : DE := fun ρ μ Q => t ρ μ fun x μ1 => ∃ p o d, x = .ref p ∧ μ1 p = some o ∧ obD o = some d ∧ Q d (mdel μ1 p)
section
variable {X : Cx} {G : Gh} {Y : Pc} {e a b o : Expr} {es rest : List Expr} {pos p apos cpos : Pos} {f fa fb : Ro → Res D} {r : Ro → Res (List D)} {k : Nat}
theorem pd_frz {t : DE} (h : PD X G e t) : PD X G e (dFrz t) := by
  obtain ⟨te, pe, fn⟩ := h.ex
  refine ⟨te, pe, fun {σ H ρ μ Q Qd} ok q kk => fn ok q fun v x H' μ' g j h1 q1 => ?_⟩
  obtain ⟨p, o, d, rfl, e1, e2, q2⟩ := q1
  cases h1
  exact kk _ _ _ _ (g.trans (gr_del e1 (obD_hid e2))) j.del (obd_da j e1 e2) q2
/-- an expression that makes a new thing -/
def dVN (Y : Pc) (f : Ro → Res D) : DE := fun ρc μ Q => ∃ ρ, Own Y ρ ρc μ ∧ RQ Y.E (f ρ) fun d => ∀ p o, μ p = none → obD o = some d → Q (.ref p) (mup μ p o)
theorem PD.frz (h : PD X G e (dVN Y f)) : PD X G e (dV Y f) := (pd_frz h).mono fun ρc μ Q ⟨ρ, w, q⟩ => ⟨ρ, w, q.mono fun d q p o n e => ⟨p, o, d, rfl, mup_same, e, by rw [mdel_mup n]; exact q⟩⟩
theorem nv_lst (h : PDA X G es (dVA Y r)) : PD X G (.List es pos) (dVN Y (vLst r)) := (pd_lstM h).mono fun ρc μ Q ⟨ρ, w, q⟩ => by
  refine ⟨ρ, w, (RQ.bind q).mono fun xs q => ?_⟩
  obtain ⟨c, q⟩ := RQ.ite q
  exact ⟨c, fun p n => q p (.lst xs) n rfl⟩
theorem nv_list (hm : X.mg "list" = none) (ha : PD X G a (dVL Y fa)) (hg : Gl X "list" := by rfl) (hs : starEach [a] X.env = (false, eval a X.env) :: starEach [] X.env := by rfl) : PD X G (.Call (.Name "list" p) [a] [] pos) (dVN Y (vUn vList fa)) := (pd_listM hm ha hg hs).mono fun ρc μ Q ⟨ρ, w, q⟩ => by
  refine ⟨ρ, w, (RQ.bind q).mono fun x q x' vx => ?_⟩
  obtain ⟨d, e, q⟩ := q.of
  obtain ⟨xs, e', rfl⟩ := Option.map_eq_some_iff.mp e
  exact ⟨_, xs, rfl, vx.row e', fun p n => q p (.lst xs) n rfl⟩
/-! ### statements about them -/
theorem sv_new {i : Nat} {x : Str} {pos' : Pos} (hN : X.N.Nodup) (he : PD X G e (dVN Y f)) (hO : Y.O.contains i = true := by rfl) (hl : decide (i < X.N.length) = true := by rfl) (hsf : (Y.self.isNone || i != 0) = true := by rfl) (hi : X.N[i]? = some x := by rfl) (hx : Loc X.env.scope x := by first | exact .inl rfl | exact .inr rfl) (hs : swapsWith e (some (.Name x pos')) pos.line X.env = pure false := by rfl)
    (hf : X.fn x = true ∨ X.env.scope.names.lookup x = some .local := by first | exact .inl rfl | exact .inr rfl | assumption) : PDS X G (.Assign [.Name x pos'] e pos) (dVS Y fun ρ => SR.of (f ρ) fun d => if i < ρ.length then .nx (ρ.set i (some d)) else .no) := (ds_set hN he hi hx hs hf).mono fun D' ρc μ ⟨ρ, w, q⟩ => by
  refine ⟨ρ, w, (SQ.of q).mono fun d q p o n e => ?_⟩
  split at q
  · rename_i c; exact q _ _ (w.born (by simpa using hO) n e c hsf)
  · exact q.elim
def vNew (f : Ro → Res D) (i : Nat) : Ro → SR := fun ρ => SR.of (f ρ) fun d => if i < ρ.length then .nx (ρ.set i (some d)) else .no
/-- the store's own thing -/
theorem Own.at_lst {ρ ρc : Ro} {μ : Mu} (w : Own Y ρ ρc μ) {i : Nat} (hi : i ∈ Y.O) {xs : List D} (h : slot ρ i = some (.lst xs)) : ∃ a, slot ρc i = some (.ref a) ∧ μ a = some (.lst xs) := by
  obtain ⟨a, o, h1, h2, h3, h4⟩ := w.own i hi _ h
  rcases obD_inv h3 with ⟨xs', rfl, z⟩ | ⟨kvs, rfl, z⟩ | ⟨w, kvs, rfl, z⟩ | ⟨C, fs, rfl, z⟩ <;> cases z
  exact ⟨a, h1, h2⟩
theorem Own.at_dN {ρ ρc : Ro} {μ : Mu} (w : Own Y ρ ρc μ) {i : Nat} (hi : i ∈ Y.O) {wd : World} {xs : List (NestedKey × D)} (h : slot ρ i = some (.dN wd xs)) : ∃ a, slot ρc i = some (.ref a) ∧ μ a = some (.dN wd xs) := by
  obtain ⟨a, o, h1, h2, h3, h4⟩ := w.own i hi _ h
  rcases obD_inv h3 with ⟨xs', rfl, z⟩ | ⟨kvs, rfl, z⟩ | ⟨w, kvs, rfl, z⟩ | ⟨C, fs, rfl, z⟩ <;> cases z
  exact ⟨a, h1, h2⟩
theorem Own.at_dK {ρ ρc : Ro} {μ : Mu} (w : Own Y ρ ρc μ) {i : Nat} (hi : i ∈ Y.O) {xs : List (Key × D)} (h : slot ρ i = some (.dK xs)) : ∃ a, slot ρc i = some (.ref a) ∧ μ a = some (.dK xs) := by
  obtain ⟨a, o, h1, h2, h3, h4⟩ := w.own i hi _ h
  rcases obD_inv h3 with ⟨xs', rfl, z⟩ | ⟨kvs, rfl, z⟩ | ⟨w, kvs, rfl, z⟩ | ⟨C, fs, rfl, z⟩ <;> cases z
  exact ⟨a, h1, h2⟩
theorem Own.at_ins {ρ ρc : Ro} {μ : Mu} (w : Own Y ρ ρc μ) {i : Nat} (hi : i ∈ Y.O) {C : Addr} {fs : List (Str × D)} (h : slot ρ i = some (.obj C fs)) : ∃ a, slot ρc i = some (.ref a) ∧ μ a = some (.ins C fs) := by
  obtain ⟨a, o, h1, h2, h3, h4⟩ := w.own i hi _ h
  rcases obD_inv h3 with ⟨xs', rfl, z⟩ | ⟨kvs, rfl, z⟩ | ⟨w, kvs, rfl, z⟩ | ⟨C, fs, rfl, z⟩ <;> cases z
  exact ⟨a, h1, h2⟩
/-! xs.append(e), xs.extend(e) -/
def vApp (i : Nat) (f : Ro → Res D) : Ro → SR := fun ρ => match slot ρ i with
  | some (.lst xs) => SR.of (f ρ) fun y => if xs.length < sizeLine then .nx (ρ.set i (some (.lst (xs ++ [y])))) else .no
  | _ => .no
theorem sv_append (i : Nat) {x : Str} {xpos : Pos} (he : PD X G e (dV Y f)) (hO : Y.O.contains i = true := by rfl) (hN : X.N[i]? = some x := by rfl) (hv : Vis X.env.scope x := by first | exact Or.inl rfl | exact Or.inr (Or.inl rfl) | exact Or.inr (Or.inr rfl)) (hd : (x == ("__debug__" : Str)) = false := by decide)
    (hcd : (x == ("__classdict__" : Str)) = false := by decide) (hbase : attributeBase (.Name x xpos) "append" X.env (eval (.Name x xpos) X.env) = eval (.Name x xpos) X.env := by rfl)
    (hfew : ((backTo pos (starEach [e] X.env)).all (fun x => !x.1) && (backToKw pos (keywordEach [] X.env)).all (fun x => x.1.isSome)
      && decide ([e].length + ([] : List Keyword).length + (if ([] : List Keyword).isEmpty then 0 else 1) < 30)) = true := by rfl)
    (hline : (apos.endLine == pos.line) = true := by rfl) (hs : starEach [e] X.env = (false, eval e X.env) :: starEach [] X.env := by rfl) (hplain : (backTo pos (starEach [] X.env)).any (·.1) = false := by rfl)
    (hsw : swapsWith (.Call (.Attribute (.Name x xpos) "append" apos) [e] [] pos) none cpos.line X.env = pure false := by rfl) :
    PDS X G (.Expr (.Call (.Attribute (.Name x xpos) "append" apos) [e] [] pos) cpos) (dVS Y (vApp i f)) := (ds_expr (pd_append (pd_var i hN hv hd hcd) (pda_cons he pda_nil hs) hbase hfew hline hs hplain) hsw).mono fun D' ρc μ ⟨ρ, w, q⟩ => by
  have hi : i ∈ Y.O := by simpa using hO
  unfold vApp at q
  split at q
  · rename_i xs e1
    obtain ⟨a, h1, h2⟩ := w.at_lst hi e1
    unfold dDrop dM dVar
    rw [h1]
    refine ⟨⟨a, xs, rfl, h2⟩, ρ, w, (SQ.of q).mono fun y q => ?_⟩
    unfold dNil
    show gAppend (.ref a) [y] μ fun x μ1 => D'.nx ρc μ1
    rw [gAppend_ref h2]
    split at q
    · rename_i c; exact ⟨c, q _ _ (w.turn hi e1 h1 rfl)⟩
    · exact q.elim
  · exact q.elim
def vExt (i : Nat) (f : Ro → Res D) : Ro → SR := fun ρ => match slot ρ i with
  | some (.lst xs) => SR.of (f ρ) fun y => match y with
    | .lst ys => if xs.length + ys.length ≤ sizeLine then .nx (ρ.set i (some (.lst (xs ++ ys)))) else .no
    | .tup ys => if xs.length + ys.length ≤ sizeLine then .nx (ρ.set i (some (.lst (xs ++ ys)))) else .no
    | _ => .no
  | _ => .no
theorem sv_extend (i : Nat) {x : Str} {xpos : Pos} (he : PD X G e (dV Y f)) (hO : Y.O.contains i = true := by rfl) (hN : X.N[i]? = some x := by rfl) (hv : Vis X.env.scope x := by first | exact Or.inl rfl | exact Or.inr (Or.inl rfl) | exact Or.inr (Or.inr rfl)) (hd : (x == ("__debug__" : Str)) = false := by decide)
    (hcd : (x == ("__classdict__" : Str)) = false := by decide) (hbase : attributeBase (.Name x xpos) "extend" X.env (eval (.Name x xpos) X.env) = eval (.Name x xpos) X.env := by rfl)
    (hfew : ((backTo pos (starEach [e] X.env)).all (fun x => !x.1) && (backToKw pos (keywordEach [] X.env)).all (fun x => x.1.isSome)
      && decide ([e].length + ([] : List Keyword).length + (if ([] : List Keyword).isEmpty then 0 else 1) < 30)) = true := by rfl)
    (hline : (apos.endLine == pos.line) = true := by rfl) (hs : starEach [e] X.env = (false, eval e X.env) :: starEach [] X.env := by rfl) (hplain : (backTo pos (starEach [] X.env)).any (·.1) = false := by rfl)
    (hsw : swapsWith (.Call (.Attribute (.Name x xpos) "extend" apos) [e] [] pos) none cpos.line X.env = pure false := by rfl) :
    PDS X G (.Expr (.Call (.Attribute (.Name x xpos) "extend" apos) [e] [] pos) cpos) (dVS Y (vExt i f)) := (ds_expr (pd_ext (pd_var i hN hv hd hcd) (pda_cons he pda_nil hs) hbase hfew hline hs hplain) hsw).mono fun D' ρc μ ⟨ρ, w, q⟩ => by
  have hi : i ∈ Y.O := by simpa using hO
  unfold vExt at q
  split at q
  · rename_i xs e1
    obtain ⟨a, h1, h2⟩ := w.at_lst hi e1
    unfold dDrop dBM dVar
    rw [h1]
    refine ⟨⟨a, xs, rfl, h2⟩, ρ, w, (SQ.of q).mono fun y q => ?_⟩
    split at q
    · split at q
      · rename_i c; exact ⟨a, xs, _, _, rfl, h2, rfl, .inl rfl, c, q _ _ (w.turn hi e1 h1 rfl)⟩
      · exact q.elim
    · split at q
      · rename_i c; exact ⟨a, xs, _, _, rfl, h2, rfl, .inr rfl, c, q _ _ (w.turn hi e1 h1 rfl)⟩
      · exact q.elim
    · exact q.elim
  · exact q.elim
/-! ### dicts with nested keys -/
mutual
def ndOf : D → Option NestedKey
  | .non => some .none
  | .int i => some (.num i)
  | .str x => some (.text x)
  | .tup ds => (ndsOf ds).map .tup
  | _ => none
def ndsOf : List D → Option (List NestedKey)
  | [] => some []
  | d :: ds => match ndOf d with
    | some k => (ndsOf ds).map (k :: ·)
    | none => none
end
mutual
theorem ndOf_inv : ∀ {d : D} {k : NestedKey}, ndOf d = some k → d = dn k
  | .non, k, h => by simp only [ndOf, Option.some.injEq] at h; subst h; rfl
  | .int i, k, h => by simp only [ndOf, Option.some.injEq] at h; subst h; rfl
  | .str i, k, h => by simp only [ndOf, Option.some.injEq] at h; subst h; rfl
  | .tup ds, k, h => by
    simp only [ndOf] at h
    obtain ⟨ks, e, rfl⟩ := Option.map_eq_some_iff.mp h
    rw [dn, ndsOf_inv e]
  | .bl _, k, h => by simp [ndOf] at h
  | .ty _, k, h => by simp [ndOf] at h
  | .ref _, k, h => by simp [ndOf] at h
  | .lst _, k, h => by simp [ndOf] at h
  | .sq _, k, h => by simp [ndOf] at h
  | .obj _ _, k, h => by simp [ndOf] at h
  | .dK _, k, h => by simp [ndOf] at h
  | .dN _ _, k, h => by simp [ndOf] at h
  | .set _ _, k, h => by simp [ndOf] at h
theorem ndsOf_inv : ∀ {ds : List D} {ks : List NestedKey}, ndsOf ds = some ks → ds = dns ks
  | [], ks, h => by simp only [ndsOf, Option.some.injEq] at h; subst h; rfl
  | d :: ds, ks, h => by
    simp only [ndsOf] at h
    split at h
    · rename_i k e
      obtain ⟨ks', e', rfl⟩ := Option.map_eq_some_iff.mp h
      rw [dns, ndOf_inv e, ndsOf_inv e']
    · cases h
end
mutual
theorem ndOf_dn : ∀ k : NestedKey, ndOf (dn k) = some k
  | .none => by simp only [dn, ndOf]
  | .num i => by simp only [dn, ndOf]
  | .text x => by simp only [dn, ndOf]
  | .tup ks => by simp only [dn, ndOf, ndsOf_dns ks, Option.map]
theorem ndsOf_dns : ∀ ks : List NestedKey, ndsOf (dns ks) = some ks
  | [] => by simp only [dns, ndsOf]
  | k :: ks => by simp only [dns, ndsOf, ndOf_dn k, ndsOf_dns ks, Option.map]
end
open Classical in
/-- a key that is fit -/
noncomputable def nkOf (d : D) : Option NestedKey := (ndOf d).bind fun k => if nkey k then some k else none
theorem nkOf_inv {d : D} {k : NestedKey} (h : nkOf d = some k) : d = dn k ∧ nkey k := by
  obtain ⟨k', e1, e2⟩ := Option.bind_eq_some_iff.mp h
  split at e2
  · rename_i c; cases e2; exact ⟨ndOf_inv e1, c⟩
  · cases e2
theorem nkOf_dn {k : NestedKey} (h : nkey k) : nkOf (dn k) = some k := by unfold nkOf; rw [ndOf_dn]; simp only [Option.bind, h, if_true]
open Classical in
/-- the entries of a dict of this world -/
noncomputable def dnOf (w : World) : D → Option (List (NestedKey × D))
  | .dN w' kvs => if w' = w then some kvs else none
  | _ => none
theorem dnOf_row {w : World} {kvs : List (NestedKey × D)} : dnOf w (.dN w kvs) = some kvs := by simp only [dnOf, if_true]
theorem dnOf_inv {w : World} {d : D} {kvs : List (NestedKey × D)} (h : dnOf w d = some kvs) : d = .dN w kvs := by
  unfold dnOf at h
  split at h
  · split at h
    · rename_i c; cases h; rw [c]
    · cases h
  · cases h
theorem Vw.dkN {w : World} {μ : Mu} {x' x : D} {kvs : List (NestedKey × D)} (h : Vw Y μ x' x) (e : dnOf w x = some kvs) : dkN w μ x' kvs := by
  have := dnOf_inv e
  subst this
  rcases h with rfl | ⟨a, o, rfl, h1, h2, _⟩
  · exact .inr rfl
  · rcases obD_inv h2 with ⟨xs', rfl, z⟩ | ⟨kvs, rfl, z⟩ | ⟨w, kvs, rfl, z⟩ | ⟨C, fs, rfl, z⟩ <;> cases z
    exact .inl ⟨a, rfl, h1⟩
theorem Vw.key {μ : Mu} {y' y : D} {k : NestedKey} (h : Vw Y μ y' y) (e : nkOf y = some k) : y' = dn k ∧ nkey k := by
  obtain ⟨rfl, n⟩ := nkOf_inv e
  refine ⟨h.atom ?_, n⟩
  obtain ⟨_, ks, rfl⟩ := n
  rw [dn]; rfl
noncomputable def vNIx (w : World) (x y : D) : Option D := (dnOf w x).bind fun kvs => (nkOf y).bind fun k => lk kvs k
theorem vNIx_ok {w : World} : Op2L (vNIx w) (gNIx w) := @fun Y x y x' y' d μ Q vx vy h q => by
  obtain ⟨kvs, e1, h⟩ := Option.bind_eq_some_iff.mp h
  obtain ⟨k, e2, h⟩ := Option.bind_eq_some_iff.mp h
  obtain ⟨e3, n⟩ := vy.key e2
  exact ⟨kvs, k, d, vx.dkN e1, e3, n, h, q⟩
noncomputable def cNIn (w : World) (y x : D) : Option Bool := (dnOf w x).bind fun kvs => (nkOf y).bind fun k => some (lk kvs k).isSome
noncomputable abbrev cNIn1 (w : World) (y x : D) := (cNIn w y x).map (· == true)
noncomputable abbrev cNIn0 (w : World) (y x : D) := (cNIn w y x).map (· == false)
theorem cNIn_ok {w : World} (t : Bool) : CmpL (fun y x => (cNIn w y x).map (· == t)) (gNIn w t) := @fun Y x y x' y' z μ Q vx vy h q => by
  obtain ⟨b, h', rfl⟩ := Option.map_eq_some_iff.mp h
  obtain ⟨kvs, e1, h2⟩ := Option.bind_eq_some_iff.mp h'
  obtain ⟨k, e2, h3⟩ := Option.bind_eq_some_iff.mp h2
  cases h3
  obtain ⟨e3, n⟩ := vx.key e2
  exact ⟨kvs, k, vy.dkN e1, e3, n, q⟩
theorem pv_nix (hr : Room k X.A) (ha : PD X G a (dVL Y fa)) (hb : PD X G b (dVL Y fb)) (hs : PlainIx b := by exact fun _ _ => rfl) : PD X G (.Subscript a b pos) (dV Y (vOp (vNIx X.w) fa fb)) := (pd_nix hr ha hb hs).mono fun _ _ _ h => dV_opL vNIx_ok h
theorem pv_nIn (hr : Room k X.A) (ha : PD X G a (dVL Y fa)) (hb : PD X G b (dVL Y fb)) (hm : behindInMarks .In b = false := by rfl) : PD X G (.Compare a [.In] [b] pos) (dV Y (vOp (vBl (cNIn1 X.w)) fa fb)) := (pd_nin hr ha hb hm).mono fun _ _ _ h => dV_opL (CmpL.op (cNIn_ok true)) h
theorem tv_nIn (hr : Room k X.A) (ha : PD X G a (dVL Y fa)) (hb : PD X G b (dVL Y fb)) (hm : behindInMarks .In b = false := by rfl) : PDT X G (.Compare a [.In] [b] pos) (dVT Y (vCmp (cNIn1 X.w) fa fb)) := (pt_nin hr ha hb hm).mono fun _ _ _ h => dVT_cmp (cNIn_ok true) h
theorem tv_nNotIn (hr : Room k X.A) (ha : PD X G a (dVL Y fa)) (hb : PD X G b (dVL Y fb)) (hm : behindInMarks .NotIn b = false := by rfl) : PDT X G (.Compare a [.NotIn] [b] pos) (dVT Y (vCmp (cNIn0 X.w) fa fb)) := (pt_nnin hr ha hb hm).mono fun _ _ _ h => dVT_cmp (cNIn_ok false) h
noncomputable def vNLen (w : World) (x : D) : Option D := (dnOf w x).bind fun kvs => some (.int kvs.length)
theorem pv_nlen (hm : X.mg "len" = none) (ha : PD X G a (dVL Y fa)) (hg : Gl X "len" := by rfl) (hs : starEach [a] X.env = (false, eval a X.env) :: starEach [] X.env := by rfl) : PD X G (.Call (.Name "len" p) [a] [] pos) (dV Y (vUn (vNLen X.w) fa)) := (pd_nlen hm ha hg hs).mono fun _ _ _ h => dV_b1 (fun {Y x x' d μ Q} vx e q => by
  obtain ⟨kvs, e1, h⟩ := Option.bind_eq_some_iff.mp e
  cases h
  exact ⟨x', kvs, rfl, vx.dkN e1, q⟩) h
/-- d.get(k, x) -/
noncomputable def vNGet (w : World) (fo : Ro → Res D) (r : Ro → Res (List D)) : Ro → Res D := fun ρ => (fo ρ).bind fun x => (Res.of (dnOf w x)).bind fun kvs => (r ρ).bind fun ds => match ds with
  | [y, z] => (Res.of (nkOf y)).bind fun k => .ok ((lk kvs k).getD z)
  | _ => .no
theorem pv_nget {fo : Ro → Res D} (hr : Room k X.A) (ho : PD X G o (dVL Y fo)) (ha : PDA X G (e :: es) (dVA Y r)) (hbase : attributeBase o "get" X.env (eval o X.env) = eval o X.env := by rfl)
    (hfew : ((backTo cpos (starEach (e :: es) X.env)).all (fun x => !x.1) && (backToKw cpos (keywordEach [] X.env)).all (fun x => x.1.isSome)
      && decide ((e :: es).length + ([] : List Keyword).length + (if ([] : List Keyword).isEmpty then 0 else 1) < 30)) = true := by rfl)
    (hline : (apos.endLine == cpos.line) = true := by rfl) (hs : starEach (e :: es) X.env = (false, eval e X.env) :: starEach es X.env := by rfl) (hplain : (backTo cpos (starEach es X.env)).any (·.1) = false := by rfl) :
    PD X G (.Call (.Attribute o "get" apos) (e :: es) [] cpos) (dV Y (vNGet X.w fo r)) := (pd_nget hr ho ha hbase hfew hline hs hplain).mono fun ρc μ Q ⟨ρ, w, q⟩ => by
  refine ⟨ρ, w, (RQ.bind q).mono fun x q x' vx => ?_⟩
  obtain ⟨kvs, e1, q⟩ := (RQ.bind q).of
  refine ⟨⟨kvs, vx.dkN e1⟩, ρ, w, (RQ.bind q).mono fun ds q => ?_⟩
  split at q
  · obtain ⟨kk, e2, q⟩ := (RQ.bind q).of
    obtain ⟨e3, n⟩ := nkOf_inv e2
    exact ⟨kvs, kk, _, vx.dkN e1, by rw [e3], n, q⟩
  · exact q.elim
/-! new ones -/
def vNNew (w : World) : Ro → Res D := fun _ => .ok (.dN w [])
theorem nv_nnew : PD X G (.Dict [] [] pos) (dVN Y (vNNew X.w)) := pd_nnew.mono fun ρc μ Q ⟨ρ, w, q⟩ p n => q p (.dN X.w []) n rfl
/-- pairs (key, value) -/
noncomputable def pairsN : List D → Option (List (NestedKey × D))
  | [] => some []
  | .tup [y, z] :: ds => (nkOf y).bind fun k => (pairsN ds).map ((k, z) :: ·)
  | _ => none
theorem pairsN_inv : ∀ {ds : List D} {kvs : List (NestedKey × D)}, pairsN ds = some kvs → ds = kvs.map pairD ∧ ∀ kv ∈ kvs, nkey kv.1
  | [], kvs, h => by simp only [pairsN, Option.some.injEq] at h; subst h; exact ⟨rfl, by simp⟩
  | .tup [y, z] :: ds, kvs, h => by
    simp only [pairsN] at h
    obtain ⟨kk, e1, h⟩ := Option.bind_eq_some_iff.mp h
    obtain ⟨more, e2, rfl⟩ := Option.map_eq_some_iff.mp h
    obtain ⟨e3, n⟩ := nkOf_inv e1
    obtain ⟨e4, n4⟩ := pairsN_inv e2
    refine ⟨by rw [e3, e4]; rfl, fun kv hk => ?_⟩
    rcases List.mem_cons.mp hk with rfl | hk
    · exact n
    · exact n4 kv hk
noncomputable def vDictP (w : World) (x : D) : Option D := match x with
  | .lst xs => (pairsN xs).bind fun kvs => if xs.length ≤ sizeLine then some (.dN w (pts [] kvs)) else none
  | .tup xs => (pairsN xs).bind fun kvs => if xs.length ≤ sizeLine then some (.dN w (pts [] kvs)) else none
  | _ => none
theorem nv_dictP (hc : X.calm = true) (hr : Room k X.A) (hm : X.mg "dict" = none) (ha : PD X G a (dVL Y fa)) (hg : Gl X "dict" := by rfl) (hs : starEach [a] X.env = (false, eval a X.env) :: starEach [] X.env := by rfl) : PD X G (.Call (.Name "dict" p) [a] [] pos) (dVN Y (vUn (vDictP X.w) fa)) := (pd_dictP hc hr hm ha hg hs).mono fun ρc μ Q ⟨ρ, w, q⟩ => by
  refine ⟨ρ, w, (RQ.bind q).mono fun x q x' vx => ?_⟩
  obtain ⟨d, e, q'⟩ := q.of
  unfold vDictP at e
  split at e
  · obtain ⟨kvs, e1, e⟩ := Option.bind_eq_some_iff.mp e
    split at e
    · rename_i xs c
      cases e
      obtain ⟨rfl, n⟩ := pairsN_inv e1
      exact ⟨x', kvs, rfl, .inl (vx.vw rfl), n, by simpa using c, fun p np => q' p (.dN X.w (pts [] kvs)) np rfl⟩
    · cases e
  · obtain ⟨kvs, e1, e⟩ := Option.bind_eq_some_iff.mp e
    split at e
    · rename_i xs c
      cases e
      obtain ⟨rfl, n⟩ := pairsN_inv e1
      exact ⟨x', kvs, rfl, .inr (vx.vw rfl), n, by simpa using c, fun p np => q' p (.dN X.w (pts [] kvs)) np rfl⟩
    · cases e
  · cases e
/-! d[k] = v, d.pop(k, x) -/
noncomputable def vNSet (w : World) (i : Nat) (fk fv : Ro → Res D) : Ro → SR := fun ρ => SR.of (fv ρ) fun v => match slot ρ i with
  | some x => match dnOf w x with
    | some kvs => SR.of (fk ρ) fun y => match nkOf y with
      | some k => if kvs.length < sizeLine then .nx (ρ.set i (some (.dN w (pt kvs k v)))) else .no
      | none => .no
    | none => .no
  | none => .no
theorem sv_nset (i : Nat) {x : Str} {xpos tpos : Pos} {fk fv : Ro → Res D} (hr : Room k X.A) (hk : PD X G a (dV Y fk)) (hvl : PD X G b (dV Y fv)) (hO : Y.O.contains i = true := by rfl) (hN : X.N[i]? = some x := by rfl) (hv : Vis X.env.scope x := by first | exact Or.inl rfl | exact Or.inr (Or.inl rfl) | exact Or.inr (Or.inr rfl)) (hd : (x == ("__debug__" : Str)) = false := by decide)
    (hcd : (x == ("__classdict__" : Str)) = false := by decide) (ha : ∀ v, assign (.Subscript (.Name x xpos) a tpos) X.env v = (do
      let ov ← holding [v] (eval (.Name x xpos) X.env)
      let iv ← holding [v, ov] (eval a X.env)
      standAt tpos
      holding [v, ov, iv] (setItem ov iv v)
      release [v, ov, iv] []) := by intro _; rfl) (hs : swapsWithSole [.Subscript (.Name x xpos) a tpos] b pos.line X.env = pure false := by rfl) (hw : swappedStores [.Subscript (.Name x xpos) a tpos] b X.env = pure none := by rfl)
    (h1 : (assignEach [.Subscript (.Name x xpos) a tpos] X.env).map (·.2) = [assign (.Subscript (.Name x xpos) a tpos) X.env] := by rfl) :
    PDS X G (.Assign [.Subscript (.Name x xpos) a tpos] b pos) (dVS Y (vNSet X.w i fk fv)) := (ds_asg hvl (dg_nsub hr (pd_var i hN hv hd hcd) hk ha) hs hw h1).mono fun D' ρc μ ⟨ρ, w, q⟩ => by
  have hi : i ∈ Y.O := by simpa using hO
  refine ⟨ρ, w, (SQ.of q).mono fun v q => ?_⟩
  split at q
  · rename_i x e1
    split at q
    · rename_i kvs e2
      have := dnOf_inv e2
      subst this
      obtain ⟨a, h1, h2⟩ := w.at_dN hi e1
      show dVar i ρc μ _
      unfold dVar
      rw [h1]
      refine ⟨ρ, w, (SQ.of q).mono fun y q => ?_⟩
      split at q
      · rename_i kk e3
        obtain ⟨e4, n⟩ := nkOf_inv e3
        split at q
        · rename_i c; exact ⟨a, kvs, kk, rfl, h2, e4, n, c, q _ _ (w.turn hi e1 h1 rfl)⟩
        · exact q.elim
      · exact q.elim
    · exact q.elim
  · exact q.elim
noncomputable def vNPop (w : World) (i : Nat) (r : Ro → Res (List D)) : Ro → SR := fun ρ => match slot ρ i with
  | some x => match dnOf w x with
    | some kvs => SR.of (r ρ) fun ds => match ds with
      | [y, _] => match nkOf y with
        | some k => .nx (ρ.set i (some (.dN w (rm kvs k))))
        | none => .no
      | _ => .no
    | none => .no
  | none => .no
theorem sv_npop (i : Nat) {x : Str} {xpos : Pos} (hr : Room k X.A) (he : PDA X G (e :: es) (dVA Y r)) (hO : Y.O.contains i = true := by rfl) (hN : X.N[i]? = some x := by rfl) (hv : Vis X.env.scope x := by first | exact Or.inl rfl | exact Or.inr (Or.inl rfl) | exact Or.inr (Or.inr rfl)) (hd : (x == ("__debug__" : Str)) = false := by decide)
    (hcd : (x == ("__classdict__" : Str)) = false := by decide) (hbase : attributeBase (.Name x xpos) "pop" X.env (eval (.Name x xpos) X.env) = eval (.Name x xpos) X.env := by rfl)
    (hfew : ((backTo pos (starEach (e :: es) X.env)).all (fun x => !x.1) && (backToKw pos (keywordEach [] X.env)).all (fun x => x.1.isSome)
      && decide ((e :: es).length + ([] : List Keyword).length + (if ([] : List Keyword).isEmpty then 0 else 1) < 30)) = true := by rfl)
    (hline : (apos.endLine == pos.line) = true := by rfl) (hs : starEach (e :: es) X.env = (false, eval e X.env) :: starEach es X.env := by rfl) (hplain : (backTo pos (starEach es X.env)).any (·.1) = false := by rfl)
    (hsw : swapsWith (.Call (.Attribute (.Name x xpos) "pop" apos) (e :: es) [] pos) none cpos.line X.env = pure false := by rfl) :
    PDS X G (.Expr (.Call (.Attribute (.Name x xpos) "pop" apos) (e :: es) [] pos) cpos) (dVS Y (vNPop X.w i r)) := (ds_expr (pd_npop hr (pd_var i hN hv hd hcd) he hbase hfew hline hs hplain) hsw).mono fun D' ρc μ ⟨ρ, w, q⟩ => by
  have hi : i ∈ Y.O := by simpa using hO
  unfold vNPop at q
  split at q
  · rename_i x e1
    split at q
    · rename_i kvs e2
      have := dnOf_inv e2
      subst this
      obtain ⟨a, h1, h2⟩ := w.at_dN hi e1
      unfold dDrop dBM dVar
      rw [h1]
      refine ⟨⟨kvs, .inl ⟨a, rfl, h2⟩⟩, ρ, w, (SQ.of q).mono fun ds q => ?_⟩
      split at q
      · split at q
        · rename_i kk e3
          obtain ⟨e4, n⟩ := nkOf_inv e3
          exact ⟨a, kvs, kk, _, rfl, h2, by rw [e4], n, q _ _ (w.turn hi e1 h1 rfl)⟩
        · exact q.elim
      · exact q.elim
    · exact q.elim
  · exact q.elim
/-! ### a thing changes no more -/
def Pc.without (Y : Pc) (i : Nat) : Pc := ⟨Y.μ0, Y.O.filter (· != i), Y.E, Y.self⟩
def vFrz (i : Nat) (s : Ro → SR) : Ro → SR := fun ρ => match s ρ with
  | .nx ρ' => .nx (ρ'.set i none)
  | .bk ρ' => .bk (ρ'.set i none)
  | .ct ρ' => .ct (ρ'.set i none)
  | r => r
theorem Own.with {i : Nat} {ρ ρc : Ro} {μ : Mu} (w : Own (Y.without i) ρ ρc μ) (hs : (Y.self.isNone || i != 0) = true) (hO : i ∈ Y.O) : Own Y (ρ.set i none) ρc μ := by
  have m : ∀ j, j ≠ i → (j ∈ (Y.without i).O ↔ j ∈ Y.O) := fun j h => by simp [Pc.without, h]
  by_cases hl : i < ρ.length
  · refine ⟨w.keep, by simp [w.len], fun j hj => ?_, fun j hj d hd => ?_, fun j hj l hlo hne => ?_, fun a ha => ?_⟩
    · have : j ≠ i := fun e => hj (e ▸ hO)
      rw [slot_set hl, if_neg this]
      exact w.val j fun z => hj ((m j this).mp z)
    · rw [slot_set hl] at hd
      split at hd
      · cases hd
      · rename_i c; exact w.own j ((m j c).mpr hj) d hd
    · rw [slot_set hl, slot_set hl]
      by_cases c : j = i
      · rw [if_pos c]; exact fun z => absurd rfl z
      · by_cases c2 : l = i
        · rw [if_pos c2]; exact fun _ z => absurd rfl z
        · rw [if_neg c, if_neg c2]; exact w.sep j ((m j c).mpr hj) l ((m l c2).mpr hlo) hne
    · obtain ⟨h0, h1⟩ := w.me a ha
      exact ⟨(m 0 (fun z => by rw [ha, ← z] at hs; simp at hs)).mp h0, h1⟩
  · have hz : ∀ j, ρ.length ≤ j → slot ρ j = none := fun j hj => slot_out hj
    rw [List.set_eq_of_length_le (by omega)]
    refine ⟨w.keep, w.len, fun j hj => ?_, fun j hj d hd => ?_, fun j hj l hlo hne => ?_, fun a ha => ?_⟩
    · have : j ≠ i := fun e => hj (e ▸ hO)
      exact w.val j fun z => hj ((m j this).mp z)
    · have c : j ≠ i := fun c => by rw [c, hz i (by omega)] at hd; cases hd
      exact w.own j ((m j c).mpr hj) d hd
    · intro h1 h2
      have c : j ≠ i := fun c => h1 (by rw [c]; exact hz i (by omega))
      have c2 : l ≠ i := fun c => h2 (by rw [c]; exact hz i (by omega))
      exact w.sep j ((m j c).mpr hj) l ((m l c2).mpr hlo) hne h1 h2
    · obtain ⟨h0, h1⟩ := w.me a ha
      exact ⟨(m 0 (fun z => by rw [ha, ← z] at hs; simp at hs)).mp h0, h1⟩
/-- slots below: the thing is a value now -/
theorem Own.frz {i : Nat} {ρ ρc : Ro} {μ : Mu} (w : Own Y ρ ρc μ) (hO : i ∈ Y.O) (hs : (Y.self.isNone || i != 0) = true) {d : D} (hd : slot ρ i = some d) : ∃ a o, slot ρc i = some (.ref a) ∧ μ a = some o ∧ obD o = some d ∧ Own (Y.without i) ρ (ρc.set i (some d)) (mdel μ a) := by
  obtain ⟨a, o, h1, h2, h3, h4⟩ := w.own i hO d hd
  have hl : i < ρc.length := by
    by_cases c : i < ρc.length
    · exact c
    · rw [slot_out (by omega)] at h1; cases h1
  have m : ∀ j, j ∈ (Y.without i).O → j ∈ Y.O ∧ j ≠ i := fun j h => by simpa [Pc.without] using h
  have ne : ∀ {j b}, j ∈ Y.O → j ≠ i → slot ρ j ≠ none → slot ρc j = some (.ref b) → b ≠ a := fun hj hn hd' hb z => w.sep _ hj i hO hn hd' (by rw [hd]; simp) (by rw [hb, h1, z])
  refine ⟨a, o, h1, h2, h3, fun b x h => ?_, by simp [w.len], fun j hj => ?_, fun j hj u hu => ?_, fun j hj l hlo hne => ?_, fun a' ha => ?_⟩
  · have : b ≠ a := fun z => by rw [z] at h; rw [show (Y.without i).μ0 = Y.μ0 from rfl, h4] at h; cases h
    rw [mdel_ne this]
    exact w.keep b x h
  · rw [slot_set hl]
    split
    · rename_i c; rw [c, hd]
    · rename_i c
      exact w.val j fun z => hj (by simp [Pc.without, z, c])
  · obtain ⟨j1, j2⟩ := m j hj
    obtain ⟨b, x, k1, k2, k3, k4⟩ := w.own j j1 u hu
    refine ⟨b, x, by rw [slot_set hl, if_neg j2]; exact k1, ?_, k3, k4⟩
    rw [mdel_ne (ne j1 j2 (by rw [hu]; simp) k1)]
    exact k2
  · obtain ⟨j1, j2⟩ := m j hj
    obtain ⟨l1, l2⟩ := m l hlo
    rw [slot_set hl, slot_set hl, if_neg j2, if_neg l2]
    exact w.sep j j1 l l1 hne
  · obtain ⟨h0, h5⟩ := w.me a' ha
    have c : (0 : Nat) ≠ i := fun z => by rw [show Y.self = some a' from ha, ← z] at hs; simp at hs
    exact ⟨by simp [Pc.without, h0, c], by rw [slot_set hl, if_neg c]; exact h5⟩
theorem sv_frz {st : List Stmt} {s : Ro → SR} (i : Nat) (h : PDSs X G st (dVS (Y.without i) s)) (hO : Y.O.contains i = true := by rfl) (hs : (Y.self.isNone || i != 0) = true := by rfl) : PDSs X G st (dVS Y fun ρ => match slot ρ i with | some _ => vFrz i s ρ | none => .no) := by
  have hi : i ∈ Y.O := by simpa using hO
  obtain ⟨ts, pp, fn⟩ := h.ex
  refine ⟨ts, pp, fun {σ H ρc μ D' Dd} ok t kk => ?_⟩
  obtain ⟨ρ, w, q⟩ := t
  cases hd : slot ρ i with
  | none => simp only [hd] at q; exact q.elim
  | some d =>
    simp only [hd] at q
    obtain ⟨a, o, h1, h2, h3, w2⟩ := w.frz hi hs hd
    have g : Gr μ H (mdel μ a) H := gr_del h2 (obD_hid h3)
    have ok2 : Okd X.K G (mdel μ a) H σ (ρc.set i (some d)) := by
      have o1 := ok.grow g ok.j.del
      refine ⟨o1.j, o1.g, by simpa using o1.len, fun j e he => ?_⟩
      by_cases c : j = i
      · subst c
        by_cases hl : j < ρc.length
        · rw [List.getElem?_set_self hl] at he
          cases he
          obtain ⟨v, e1, hv⟩ := ok.of j _ (slot_get h1)
          cases hv
          exact ⟨.ref a, e1, obd_da ok.j h2 h3⟩
        · rw [List.getElem?_eq_none (by simpa using hl)] at he; cases he
      · rw [List.getElem?_set_ne (Ne.symm c)] at he
        exact o1.of j e he
    refine fn ok2 ⟨ρ, w2, ?_⟩ (kk.after g)
    unfold vFrz at q
    cases hr : s ρ with
    | nx ρ' => rw [hr] at q; exact fun ρc' μ' w' => q _ _ (w'.with hs hi)
    | bk ρ' => rw [hr] at q; exact fun ρc' μ' w' => q _ _ (w'.with hs hi)
    | ct ρ' => rw [hr] at q; exact fun ρc' μ' w' => q _ _ (w'.with hs hi)
    | rt d' =>
      rw [hr] at q
      refine fun d2 μ' vw hk => q d2 μ' ?_ hk
      rcases vw with rfl | ⟨a', o', z1, z2, z3, z4⟩
      · exact .inl rfl
      · exact .inr ⟨a', o', z1, z2, z3, z4⟩
    | er C fs => rw [hr] at q; exact q
    | no => rw [hr] at q; exact q.elim
end
def vFreeze (i : Nat) (s : Ro → SR) : Ro → SR := fun ρ => match slot ρ i with | some _ => vFrz i s ρ | none => .no
end Dl

/-! Pure parts within walks; the law's end; dicts with int and text keys; dicts walked. -/
namespace Dl
open PySem PySem.Spec PyProof.Rows L2
/-! ### a pure part of a walk -/
def Y0 : Pc := ⟨fun _ => none, [], fun _ _ => False, none⟩
theorem own0 {ρ : Ro} {μ : Mu} : Own Y0 ρ ρ μ := by
  refine ⟨fun b o h => ?_, rfl, fun _ _ => rfl, fun i hi => ?_, fun i hi => ?_, fun a h => ?_⟩
  · cases h
  · cases hi
  · cases hi
  · cases h
def dPure (f : Ro → Res D) : DE := fun ρ μ Q => match f ρ with
  | .ok d => Q d μ
  | _ => False
def dPureT (f : Ro → Res Bool) : DT := fun ρ μ Q => match f ρ with
  | .ok d => Q d μ
  | _ => False
section
variable {X : Cx} {G : Gh} {Y : Pc} {e a b o : Expr} {es rest : List Expr} {pos p apos cpos : Pos} {f fa fb : Ro → Res D} {r r' : Ro → Res (List D)} {k j n : Nat} {kws : List Keyword} {ks : List Str}
theorem pd_pure (h : PD X G e (dV Y0 f)) : PD X G e (dPure f) := h.mono fun ρ μ Q q => by
  refine ⟨ρ, own0, ?_⟩
  unfold dPure at q
  cases hf : f ρ with
  | ok d => rw [hf] at q; exact q
  | er C fs => rw [hf] at q; exact q.elim
  | no => rw [hf] at q; exact q.elim
theorem pt_pure {t : Ro → Res Bool} (h : PDT X G e (dVT Y0 t)) : PDT X G e (dPureT t) := h.mono fun ρ μ Q q => by
  refine ⟨ρ, own0, ?_⟩
  unfold dPureT at q
  cases hf : t ρ with
  | ok d => rw [hf] at q; exact q
  | er C fs => rw [hf] at q; exact q.elim
  | no => rw [hf] at q; exact q.elim
/-! ### the law's end -/
def spLaw : SpX := fun ds μ Q _ => ∃ ns : List Int, ds = [.sq (ns.map .int)] ∧ ns.length ≤ 63 ∧ (μ = fun _ => none) ∧ ∀ μ', Q (.bl true) μ'
theorem upX_law {K : PySem.W.Frag} {H : Hp} {a : Addr} {ns : List Int} {E : XK} (hS : SqL K H a (ns.map V.int)) (hl : ns.length ≤ 63) : upX K spLaw [.ref a] H (fun v _ => v = .bl true) E := by
  refine ⟨[.sq (ns.map .int)], fun _ => none, fun d _ => d = .bl true, fun _ _ _ => False, (fun _ _ e => nomatch e), .cons (.sq ?_ (DaL.ints ns)) .nil, ⟨ns, rfl, hl, rfl, fun _ => rfl⟩, ?_, fun _ _ _ _ _ _ z => z.elim⟩
  · rcases hS with r | r
    · exact .inl ⟨rfl, r⟩
    · exact .inr r
  · intro v d H' μ' _ _ hv e
    subst e
    cases hv
    rfl
/-! ### calls, within a recursion; of both forms -/
theorem pv_callO {x : Str} {m : List D → Res D} {dd : List D} {ix : List Nat} (hk : k ≤ j) (wx : Wx X G (EdY Y)) (c : ClX X.prog X.w X.K X.mg X.base k x (spP m) n ks dd ix) (hr : Room j X.A) (hgu : X.A.guards = some []) (ha : PDC X G pos es kws n ks (dVA Y r)) (hg : Gl X x := by rfl) (hdb : (x == ("__debug__" : Str)) = false := by decide) : PD X G (.Call (.Name x p) es kws pos) (dV Y (vCall m dd ix r)) := pv_call wx c hr hgu ha hk hg hdb
theorem cv_b {kw : Keyword} (ha : PDA X G (e :: es) (dVA Y r)) (hkw : PDK X G (kw :: kws) (dVA Y r')) (hall : (backToKw pos (keywordEach (kw :: kws) X.env)).all (·.1.isSome) = true := by rfl) (hks : (backToKw pos (keywordEach (kw :: kws) X.env)).filterMap (·.1) = ks := by rfl)
    (he : starEach (e :: es) X.env = (false, eval e X.env) :: starEach es X.env := by rfl)
    (hpl : ((backTo pos (starEach (e :: es) X.env)).any (·.1) || (backToKw pos (keywordEach (kw :: kws) X.env)).any (·.1.isNone)) = false := by rfl) : PDC X G pos (e :: es) (kw :: kws) n ks (dVA Y (vBoth (vLenA n r) (vLenA ks.length r'))) := (pdc_b ha hkw hall hks he hpl).mono fun ρc μ Q ⟨ρ, w, q⟩ => by
  refine ⟨ρ, w, (RQ.bind (RQ.bind q)).mono fun xs q => ?_⟩
  obtain ⟨c, q⟩ := RQ.ite (c := xs.length = n) (r := .ok xs) (P := fun xs => RQ Y.E ((vLenA ks.length r' ρ).bind fun ys => .ok (xs ++ ys)) fun ds => Q ds μ) q
  exact ⟨c, ρ, w, (RQ.bind (RQ.bind q)).mono fun ys q => RQ.ite (r := .ok ys) (P := fun ys => Q (xs ++ ys) μ) q⟩
/-! ### repr, + of lists -/
open Classical in
noncomputable def vRepr (x : D) : Option D := if (rowD x).isSome = true ∧ Shows x then some (.str (py x).shown) else none
theorem pv_repr (hr : Room k X.A) (hgu : X.A.guards = some []) (hm : X.mg "repr" = none) (hv : bootBuiltins "repr" = some (.builtin "repr")) (ha : PD X G a (dV Y fa)) (hg : Gl X "repr" := by rfl) (hs : starEach [a] X.env = (false, eval a X.env) :: starEach [] X.env := by rfl) :
    PD X G (.Call (.Name "repr" p) [a] [] pos) (dV Y (vUn vRepr fa)) := (pd_repr hr hgu hm hv ha hg hs).mono fun _ _ _ h => dV_b1V (fun {x d μ Q} e q => by
  unfold vRepr at e
  split at e
  · rename_i c
    cases e
    obtain ⟨c1, c2⟩ := c
    obtain ⟨xs, e⟩ := Option.isSome_iff_exists.mp c1
    have n : vw μ x = x := by cases x <;> first | rfl | simp [rowD] at e
    show gRepr [x] μ Q
    unfold gRepr
    simp only [rowOf_row e μ, Option.isSome_some, true_and, n]
    exact ⟨c2, q⟩
  · cases e) h
def vAddL : D → D → Option D
  | .lst xs, .lst ys => if xs.length + ys.length ≤ sizeLine then some (.lst (xs ++ ys)) else none
  | _, _ => none
theorem nv_add (ha : PD X G a (dVL Y fa)) (hb : PD X G b (dVL Y fb)) : PD X G (.BinOp a .Add b pos) (dVN Y (vOp vAddL fa fb)) := (pd_addM ha hb).mono fun ρc μ Q ⟨ρ, w, q⟩ => by
  refine ⟨ρ, w, (RQ.bind q).mono fun x q1 x' vx => ⟨ρ, w, (RQ.bind q1).mono fun y q2 y' vy => ?_⟩⟩
  obtain ⟨d, e, q'⟩ := q2.of
  unfold vAddL at e
  split at e
  · split at e
    · rename_i c; cases e; exact ⟨_, _, vx.vw rfl, vy.vw rfl, c, fun p n => q' p _ n rfl⟩
    · cases e
  · cases e
/-! ### dicts with int and text keys -/
def dkOf : D → Option (List (Key × D))
  | .dK kvs => some kvs
  | _ => none
theorem Vw.dkK {μ : Mu} {x' x : D} {kvs : List (Key × D)} (h : Vw Y μ x' x) (e : dkOf x = some kvs) : dkK μ x' kvs := by
  cases x <;> simp [dkOf] at e
  subst e
  rcases h with rfl | ⟨a, o, rfl, h1, h2, _⟩
  · exact .inr rfl
  · rcases obD_inv h2 with ⟨xs', rfl, z⟩ | ⟨kvs, rfl, z⟩ | ⟨w, kvs, rfl, z⟩ | ⟨C, fs, rfl, z⟩ <;> cases z
    exact .inl ⟨a, rfl, h1⟩
theorem keyD_atom {y : D} {kk : Key} (h : keyD y = some kk) : atom y = true := by cases y <;> first | rfl | simp [keyD] at h
def vKIx (x y : D) : Option D := (dkOf x).bind fun kvs => (keyD y).bind fun kk => valD kvs kk
theorem vKIx_ok : Op2L vKIx gDIx := @fun Y x y x' y' d μ Q vx vy h q => by
  obtain ⟨kvs, e1, h1⟩ := Option.bind_eq_some_iff.mp h
  obtain ⟨kk, e2, h2⟩ := Option.bind_eq_some_iff.mp h1
  rw [vy.atom (keyD_atom e2)]
  exact ⟨kvs, kk, d, vx.dkK e1, e2, h2, q⟩
theorem pv_kix (hr : Room k X.A) (ha : PD X G a (dVL Y fa)) (hb : PD X G b (dVL Y fb)) (hs : NoSl b := by first | exact fun _ _ => rfl | (intro _ _; rfl) | rfl) : PD X G (.Subscript a b pos) (dV Y (vOp vKIx fa fb)) := (pd_dix hr ha hb hs).mono fun _ _ _ h => dV_opL vKIx_ok h
def cKIn (y x : D) : Option Bool := (dkOf x).bind fun kvs => (keyD y).bind fun kk => some (valD kvs kk).isSome
abbrev cKIn1 (y x : D) := (cKIn y x).map (· == true)
abbrev cKIn0 (y x : D) := (cKIn y x).map (· == false)
theorem cKIn_ok (t : Bool) : CmpL (fun y x => (cKIn y x).map (· == t)) (gDIn t) := @fun Y x y x' y' z μ Q vx vy h q => by
  obtain ⟨b, h', rfl⟩ := Option.map_eq_some_iff.mp h
  obtain ⟨kvs, e1, h2⟩ := Option.bind_eq_some_iff.mp h'
  obtain ⟨kk, e2, h3⟩ := Option.bind_eq_some_iff.mp h2
  cases h3
  rw [vx.atom (keyD_atom e2)]
  exact ⟨kvs, kk, vy.dkK e1, e2, q⟩
theorem pv_kIn (hr : Room k X.A) (ha : PD X G a (dVL Y fa)) (hb : PD X G b (dVL Y fb)) (hm : behindInMarks .In b = false := by rfl) : PD X G (.Compare a [.In] [b] pos) (dV Y (vOp (vBl cKIn1) fa fb)) := (pd_din hr ha hb hm).mono fun _ _ _ h => dV_opL (CmpL.op (cKIn_ok true)) h
theorem tv_kIn (hr : Room k X.A) (ha : PD X G a (dVL Y fa)) (hb : PD X G b (dVL Y fb)) (hm : behindInMarks .In b = false := by rfl) : PDT X G (.Compare a [.In] [b] pos) (dVT Y (vCmp cKIn1 fa fb)) := (pt_din hr ha hb hm).mono fun _ _ _ h => dVT_cmp (cKIn_ok true) h
theorem tv_kNotIn (hr : Room k X.A) (ha : PD X G a (dVL Y fa)) (hb : PD X G b (dVL Y fb)) (hm : behindInMarks .NotIn b = false := by rfl) : PDT X G (.Compare a [.NotIn] [b] pos) (dVT Y (vCmp cKIn0 fa fb)) := (pt_dnin hr ha hb hm).mono fun _ _ _ h => dVT_cmp (cKIn_ok false) h
def vKNew : Ro → Res D := fun _ => .ok (.dK [])
theorem nv_knew : PD X G (.Dict [] [] pos) (dVN Y vKNew) := pd_dnew.mono fun ρc μ Q ⟨ρ, w, q⟩ p n => q p (.dK []) n rfl
def vKSet (i : Nat) (fk fv : Ro → Res D) : Ro → SR := fun ρ => SR.of (fv ρ) fun v => match slot ρ i with
  | some (.dK kvs) => SR.of (fk ρ) fun y => match keyD y with
    | some kk => if kvs.length < sizeLine then .nx (ρ.set i (some (.dK (setD kvs kk v)))) else .no
    | none => .no
  | _ => .no
theorem sv_kset (i : Nat) {x : Str} {xpos tpos : Pos} {fk fv : Ro → Res D} (hr : Room k X.A) (hk : PD X G a (dV Y fk)) (hvl : PD X G b (dV Y fv)) (hO : Y.O.contains i = true := by rfl) (hN : X.N[i]? = some x := by rfl) (hv : Vis X.env.scope x := by first | exact Or.inl rfl | exact Or.inr (Or.inl rfl) | exact Or.inr (Or.inr rfl)) (hd : (x == ("__debug__" : Str)) = false := by decide)
    (hcd : (x == ("__classdict__" : Str)) = false := by decide) (hs : swapsWith b (some (.Subscript (.Name x xpos) a tpos)) pos.line X.env = pure false := by rfl) :
    PDS X G (.Assign [.Subscript (.Name x xpos) a tpos] b pos) (dVS Y (vKSet i fk fv)) := (ds_dput hr (pd_var i hN hv hd hcd) hk hvl hs).mono fun D' ρc μ ⟨ρ, w, q⟩ => by
  have hi : i ∈ Y.O := by simpa using hO
  refine ⟨ρ, w, (SQ.of q).mono fun v q => ?_⟩
  split at q
  · rename_i kvs e1
    obtain ⟨a, h1, h2⟩ := w.at_dK hi e1
    show dVar i ρc μ _
    unfold dVar
    rw [h1]
    refine ⟨ρ, w, (SQ.of q).mono fun y q => ?_⟩
    split at q
    · rename_i kk e3
      split at q
      · rename_i c; exact ⟨a, kvs, kk, rfl, h2, e3, c, q _ _ (w.turn hi e1 h1 rfl)⟩
      · exact q.elim
    · exact q.elim
  · exact q.elim
/-! xs[i] = e -/
def vLSet (i : Nat) (fk fv : Ro → Res D) : Ro → SR := fun ρ => SR.of (fv ρ) fun v => match slot ρ i with
  | some (.lst xs) => SR.of (fk ρ) fun y => match y with
    | .int z => match ixN xs.length z with
      | some n => .nx (ρ.set i (some (.lst (xs.set n v))))
      | none => .no
    | _ => .no
  | _ => .no
theorem sv_lset (i : Nat) {x : Str} {xpos tpos : Pos} {fk fv : Ro → Res D} (hk : PD X G a (dV Y fk)) (hvl : PD X G b (dV Y fv)) (hO : Y.O.contains i = true := by rfl) (hN : X.N[i]? = some x := by rfl) (hv : Vis X.env.scope x := by first | exact Or.inl rfl | exact Or.inr (Or.inl rfl) | exact Or.inr (Or.inr rfl)) (hd : (x == ("__debug__" : Str)) = false := by decide)
    (hcd : (x == ("__classdict__" : Str)) = false := by decide) (ha : ∀ v, assign (.Subscript (.Name x xpos) a tpos) X.env v = (do
      let ov ← holding [v] (eval (.Name x xpos) X.env)
      let iv ← holding [v, ov] (eval a X.env)
      standAt tpos
      holding [v, ov, iv] (setItem ov iv v)
      release [v, ov, iv] []) := by intro _; rfl) (hs : swapsWithSole [.Subscript (.Name x xpos) a tpos] b pos.line X.env = pure false := by rfl) (hw : swappedStores [.Subscript (.Name x xpos) a tpos] b X.env = pure none := by rfl)
    (h1 : (assignEach [.Subscript (.Name x xpos) a tpos] X.env).map (·.2) = [assign (.Subscript (.Name x xpos) a tpos) X.env] := by rfl) :
    PDS X G (.Assign [.Subscript (.Name x xpos) a tpos] b pos) (dVS Y (vLSet i fk fv)) := (ds_asg hvl (dg_sub (pd_var i hN hv hd hcd) hk ha) hs hw h1).mono fun D' ρc μ ⟨ρ, w, q⟩ => by
  have hi : i ∈ Y.O := by simpa using hO
  refine ⟨ρ, w, (SQ.of q).mono fun v q => ?_⟩
  split at q
  · rename_i xs e1
    obtain ⟨a, h1, h2⟩ := w.at_lst hi e1
    show dVar i ρc μ _
    unfold dVar
    rw [h1]
    refine ⟨ρ, w, (SQ.of q).mono fun y q => ?_⟩
    split at q
    · split at q
      · rename_i n e3
        unfold gSetL
        simp only [h2, e3]
        exact q _ _ (w.turn hi e1 h1 rfl)
      · exact q.elim
    · exact q.elim
  · exact q.elim
/-! ### [e for x in d], d a dict with nested keys of one's own -/
noncomputable def vLcN (w : World) (i : Nat) (g : D → Ro → Option Ro) (tt : Ro → Res Bool) (te : Ro → Res D) (vs : List Nat) : Ro → Res D := fun ρ => match slot ρ i with
  | some x => match dnOf w x with
    | some kvs => (vCol (vItem g tt te (wipeD (ρ.set i none) vs)) (kvs.map fun kv => dn kv.1)).tot.bind fun ys => if kvs.length ≤ sizeLine then .ok (.lst ys) else .no
    | none => .no
  | none => .no
theorem pv_lcN {elt tg : Expr} {ifs : List Expr} {scope : Scope} (i : Nat) (own : List (Str × Nat)) {x : Str} {xpos : Pos} {g : D → Ro → Option Ro} {tt : Ro → Res Bool} {te : Ro → Res D} (hc : X.calm = true) (hNd : X.N.Nodup) (ok : BlkOk X.N X.env.scope scope own)
    (hg : ∀ (s : Shared) (H : Hp) (C : Addr) (cl : List (Str × Addr)) (fp : List Addr), PCG (X.blk s H scope (compEnvC scope cl C X.env) fp) G (own.map (·.2)) tg (dVG Y.calm g)) (ht : ∀ (s : Shared) (H : Hp) (C : Addr) (cl : List (Str × Addr)) (fp : List Addr), PDTs (X.blk s H scope (compEnvC scope cl C X.env) fp) G ifs (dVT Y.calm tt))
    (he : ∀ (s : Shared) (H : Hp) (C : Addr) (cl : List (Str × Addr)) (fp : List Addr), PD (X.blk s H scope (compEnvC scope cl C X.env) fp) G elt (dV Y.calm te)) (hO : Y.O.contains i = true := by rfl) (hN : X.N[i]? = some x := by rfl) (hv : Vis X.env.scope x := by first | exact Or.inl rfl | exact Or.inr (Or.inl rfl) | exact Or.inr (Or.inr rfl)) (hd : (x == ("__debug__" : Str)) = false := by decide)
    (hcd : (x == ("__classdict__" : Str)) = false := by decide) (hs : ∀ z, foldedSetIterable (.Name x xpos) X.env z = pure z := by intro _; rfl) (hw : (Y.self.isNone || (own.map (·.2)).all (· != 0)) = true := by rfl) (hsf : (Y.self.isNone || i != 0) = true := by rfl) :
    PD X G (.ListComp elt [⟨tg, .Name x xpos, ifs, 0⟩] scope pos) (dV Y (vLcN X.w i g tt te (own.map (·.2)))) := (pd_lock (pd_lc own hc hNd (di_nkeys (pd_var i hN hv hd hcd)) ok hg ht he hs)).mono fun ρc μ Q ⟨ρ, w, q⟩ => by
  have hi : i ∈ Y.O := by simpa using hO
  unfold vLcN at q
  cases hx : slot ρ i with
  | none => simp only [hx] at q; exact q.elim
  | some x0 =>
    simp only [hx] at q
    cases hk : dnOf X.w x0 with
    | none => simp only [hk] at q; exact q.elim
    | some kvs =>
      simp only [hk] at q
      have := dnOf_inv hk
      subst this
      obtain ⟨c, h1, h2⟩ := w.at_dN hi hx
      have n0 : Y.μ0 c = none := by
        obtain ⟨a, o, k1, k2, k3, k4⟩ := w.own i hi _ hx
        rw [h1] at k1
        cases k1
        exact k4
      have hl : i < ρ.length := by
        by_cases z : i < ρ.length
        · exact z
        · rw [slot_out (by omega)] at hx; cases hx
      refine ⟨c, kvs, h2, fun od => ?_⟩
      -- the dict is put aside
      have w1 : Own Y (ρ.set i none) ρc (mup μ c (.dL od X.w kvs)) := by
        refine ⟨fun b o' hb => ?_, by simp [w.len], fun j hj => ?_, fun j hj d hd => ?_, fun j hj l hlo hne => ?_, w.me⟩
        · rw [mup_ne fun z => by rw [z, n0] at hb; cases hb]; exact w.keep b o' hb
        · rw [slot_set hl, if_neg fun (z : j = i) => hj (z ▸ hi)]; exact w.val j hj
        · rw [slot_set hl] at hd
          split at hd
          · cases hd
          · rename_i z
            obtain ⟨b, o', k1, k2, k3, k4⟩ := w.own j hj d hd
            have hbc : b ≠ c := fun e => w.sep j hj i hi z (by rw [hd]; simp) (by rw [hx]; simp) (by rw [k1, h1, e])
            exact ⟨b, o', k1, by rw [mup_ne hbc]; exact k2, k3, k4⟩
        · rw [slot_set hl, slot_set hl]
          by_cases z : j = i
          · rw [if_pos z]; exact fun e => absurd rfl e
          · by_cases z2 : l = i
            · rw [if_pos z2]; exact fun _ e => absurd rfl e
            · rw [if_neg z, if_neg z2]; exact w.sep j hj l hlo hne
      unfold dLc dNKeys dVar
      rw [h1]
      refine ⟨c, od, kvs, rfl, mup_same, fun E nE => ?_⟩
      have nEc : E ≠ c := fun z => by rw [z, mup_same] at nE; cases nE
      have nE0 : μ E = none := by rw [mup_ne nEc] at nE; exact nE
      have ex : Ext (mup μ c (.dL od X.w kvs)) (mup (mup μ c (.dL od X.w kvs)) E .hid) := Ext.hid nE
      have w' : Own Y.calm (wipeD (ρ.set i none) (own.map (·.2))) (wipeD ρc (own.map (·.2))) (mup (mup μ c (.dL od X.w kvs)) E .hid) := ((w1.more ex).wipe _ hw).calm
      cases hvv : vCol (vItem g tt te (wipeD (ρ.set i none) (own.map (·.2)))) (kvs.map fun kv => dn kv.1) with
      | er C fs => rw [hvv] at q; exact q.elim
      | no => rw [hvv] at q; exact q.elim
      | ok ys =>
        rw [hvv] at q
        obtain ⟨hz, q⟩ := RQ.ite (r := Res.ok (D.lst ys)) q
        have q : Q (.lst ys) μ := q
        generalize hxs : (kvs.map fun kv => dn kv.1) = xs at hvv
        have hlen : xs.length = kvs.length := by rw [← hxs, List.length_map]
        refine ⟨fun i acc μ' => μ' = mup (mup μ c (.dL od X.w kvs)) E .hid ∧ acc.length ≤ i ∧ ∃ r, vCol (vItem g tt te (wipeD (ρ.set _ none) (own.map (·.2)))) (xs.drop i) = .ok r ∧ acc ++ r = ys, ⟨rfl, Nat.le_refl _, ys, hvv, rfl⟩, fun i acc μ' z => ?_, ?_, ?_⟩
        · rw [z.1]; exact ex c _ mup_same
        · rintro i' x acc μ' hx' ⟨rfl, hl', r, hr, he'⟩
          obtain ⟨hi', rfl⟩ := List.getElem?_eq_some_iff.mp hx'
          rw [List.drop_eq_getElem_cons hi'] at hr
          rw [vCol, vItem] at hr
          cases hg' : g xs[i'] (wipeD (ρ.set i none) (own.map (·.2))) with
          | none => simp only [hg', Res.bind] at hr; cases hr
          | some ρ1 =>
            simp only [hg'] at hr
            refine ⟨_, ρ1, w', hg', fun ρc1 w2 => ⟨ρ1, w2, ?_⟩⟩
            cases ht' : tt ρ1 with
            | er C fs => simp only [ht', Res.bind] at hr; cases hr
            | no => simp only [ht', Res.bind] at hr; cases hr
            | ok z =>
              simp only [ht', Res.bind] at hr
              show (if z = true then _ else _)
              cases z with
              | false =>
                simp only [Bool.false_eq_true, if_false] at hr
                rw [if_neg (by decide)]
                cases hcc : vCol (vItem g tt te (wipeD (ρ.set i none) (own.map (·.2)))) (xs.drop (i' + 1)) with
                | er C fs => simp only [hcc] at hr; cases hr
                | no => simp only [hcc] at hr; cases hr
                | ok r' =>
                  simp only [hcc] at hr
                  cases hr
                  exact ⟨rfl, by omega, _, (by first | exact hcc | rfl), he'⟩
              | true =>
                simp only [if_true] at hr
                rw [if_pos rfl]
                refine ⟨ρ1, w2, ?_⟩
                cases hy : te ρ1 with
                | er C fs => simp only [hy] at hr; cases hr
                | no => simp only [hy] at hr; cases hr
                | ok y =>
                  simp only [hy] at hr
                  cases hcc : vCol (vItem g tt te (wipeD (ρ.set i none) (own.map (·.2)))) (xs.drop (i' + 1)) with
                  | er C fs => simp only [hcc] at hr; cases hr
                  | no => simp only [hcc] at hr; cases hr
                  | ok r' =>
                    simp only [hcc] at hr
                    cases hr
                    exact ⟨by omega, rfl, by simp only [List.length_append, List.length_singleton]; omega, r', (by first | exact hcc | rfl), by rw [List.append_assoc]; exact he'⟩
        · rintro acc μ' ⟨rfl, _, r, hr, he'⟩
          rw [hxs] at *
          rw [List.drop_length] at hr
          cases hr
          rw [mdel_mup nE, show acc = ys by simpa using he']
          refine ⟨mup_same, ?_⟩
          have e : mup (mup μ c (.dL od X.w kvs)) c (.dN X.w kvs) = μ := by
            funext b
            unfold mup
            by_cases z : b = c
            · rw [if_pos z, z, h2]
            · rw [if_neg z, if_neg z]
          rw [e]
          exact q
end
end Dl

/-! About mirrors: keys as data, sorting, what combinators are worth. -/
namespace Dl
open PySem PySem.Spec PyProof.Rows L2
/-! ### keys -/
mutual
theorem eqv_dn : ∀ a b : NestedKey, PyData.eqv (py (dn a)) (py (dn b)) = NestedKey.beq a b
  | .none, b => by cases b <;> simp only [dn, py, PyData.eqv, NestedKey.beq]
  | .num i, b => by cases b <;> simp only [dn, py, PyData.eqv, NestedKey.beq]; rfl
  | .text x, b => by
    cases b <;> simp only [dn, py, PyData.eqv, NestedKey.beq]
    rename_i y
    by_cases h : x = y
    · subst h; simp
    · simp [h]
  | .tup ks, b => by
    cases b <;> simp only [dn, py, PyData.eqv, NestedKey.beq]
    exact eqvAll_dns ks _
theorem eqvAll_dns : ∀ a b : List NestedKey, PyData.eqvAll (pyL (dns a)) (pyL (dns b)) = NestedKey.beqAll a b
  | [], b => by cases b <;> simp only [dns, pyL, PyData.eqvAll, NestedKey.beqAll]
  | k :: ks, b => by
    cases b with
    | nil => simp only [dns, pyL, PyData.eqvAll, NestedKey.beqAll]
    | cons y ys => simp only [dns, pyL, PyData.eqvAll, NestedKey.beqAll, eqv_dn k y, eqvAll_dns ks ys]
end
theorem beq_dec (a b : NestedKey) : NestedKey.beq a b = decide (a = b) := by
  by_cases h : a = b
  · subst h; simp [NestedKey.beq_self]
  · rw [decide_eq_false h]
    cases q : NestedKey.beq a b with
    | false => rfl
    | true => exact absurd (NestedKey.eq_of_beq a b q) h
mutual
theorem pur_dn : ∀ k : NestedKey, pur (dn k) = true
  | .none => by simp only [dn, pur]
  | .num _ => by simp only [dn, pur]
  | .text _ => by simp only [dn, pur]
  | .tup ks => by simp only [dn, pur]; exact purL_dns ks
theorem purL_dns : ∀ ks : List NestedKey, purL (dns ks) = true
  | [] => by simp only [dns, purL]
  | k :: ks => by simp only [dns, purL, pur_dn k, purL_dns ks, Bool.and_self]
end
mutual
theorem depth_dn : ∀ k : NestedKey, (py (dn k)).depth = k.depth
  | .none => by simp only [dn, py, PyData.depth, NestedKey.depth]
  | .num _ => by simp only [dn, py, PyData.depth, NestedKey.depth]
  | .text _ => by simp only [dn, py, PyData.depth, NestedKey.depth]
  | .tup ks => by simp only [dn, py, PyData.depth, NestedKey.depth, depthAll_dns ks]
theorem depthAll_dns : ∀ ks : List NestedKey, PyData.depthAll (pyL (dns ks)) = NestedKey.depthAll ks
  | [] => by simp only [dns, pyL, PyData.depthAll, NestedKey.depthAll]
  | k :: ks => by simp only [dns, pyL, PyData.depthAll, NestedKey.depthAll, depth_dn k, depthAll_dns ks]
end
theorem cEq_dn {a b : NestedKey} (h : b.depth ≤ 64) : cEq (dn a) (dn b) = some (decide (a = b)) := by
  unfold cEq
  rw [if_pos ⟨pur_dn a, pur_dn b, by rw [depth_dn]; exact h⟩, eqv_dn, beq_dec]
theorem cEq_int (i j : Int) : cEq (.int i) (.int j) = some (decide (i = j)) := by
  unfold cEq
  rw [if_pos ⟨rfl, rfl, by simp [py, PyData.depth]⟩]
  simp only [py, PyData.eqv]
  rfl
theorem cEq_str (i j : Str) : cEq (.str i) (.str j) = some (decide (i = j)) := by
  unfold cEq
  rw [if_pos ⟨rfl, rfl, by simp [py, PyData.depth]⟩]
  simp only [py, PyData.eqv]
  by_cases h : i = j
  · subst h; simp
  · simp [h]
theorem cEq_bl (i j : Bool) : cEq (.bl i) (.bl j) = some (decide (i = j)) := by
  unfold cEq
  rw [if_pos ⟨rfl, rfl, by simp [py, PyData.depth]⟩]
  simp only [py, PyData.eqv]
  cases i <;> cases j <;> rfl
theorem cLt_int (i j : Int) : cLt (.int i) (.int j) = some (decide (i < j)) := by
  have h := gLt_int (i := i) (j := j) (μ := fun _ => none) (Q := fun d _ => d = .bl (decide (i < j)))
  unfold gLt gD at h
  obtain ⟨p1, p2, ⟨c1, c2, c3⟩, q⟩ := h.mpr rfl
  unfold cLt
  rw [if_pos ⟨p1, p2, c1, rfl, c3⟩]
  simp only [D.bl.injEq] at q
  exact congrArg some q
theorem cGt_int (i j : Int) : cGt (.int i) (.int j) = some (decide (j < i)) := by
  have h := gGt_int (i := i) (j := j) (μ := fun _ => none) (Q := fun d _ => d = .bl (decide (j < i)))
  unfold gGt gD at h
  obtain ⟨p1, p2, ⟨c1, c2, c3⟩, q⟩ := h.mpr rfl
  unfold cGt
  rw [if_pos ⟨p1, p2, c1, rfl, c3⟩]
  simp only [D.bl.injEq] at q
  exact congrArg some q
theorem nkOf_nil : nkOf (.tup []) = some (.tup []) := nkOf_dn (k := .tup []) ⟨by decide, [], rfl⟩
/-! ### sorting of keys -/
def kle (a b : NestedKey) : Bool := PySem.W.dataLe false py (dn a) (dn b)
def sortK (ks : List NestedKey) : List NestedKey := ks.mergeSort kle
theorem sortD_dn (ks : List NestedKey) : sortD (ks.map dn) = (sortK ks).map dn := (List.map_mergeSort (r := kle) (f := dn) fun _ _ _ _ => rfl).symm
/-- keys that can be sorted -/
def AlikeK (ks : List NestedKey) : Prop := ∀ a ∈ ks, ∀ b ∈ ks, PySem.W.alike (py (dn a)) (py (dn b)) = true
theorem toks_inj {x y : PyData} (h : PySem.W.alike x y = true) (e : PySem.W.keyToks x = PySem.W.keyToks y) : PyData.eqv x y = true := by
  cases q : PyData.eqv x y with
  | true => rfl
  | false =>
    have k := (PySem.W.toks_eqv x y h).2 q [] [.inl 0]
    rw [e, PyProof.Rows.lex_irrefl, PySem.W.lex_pre] at k
    cases k
theorem kle_trans (a b c : NestedKey) : kle a b = true → kle b c = true → kle a c = true := (PySem.W.sortLe_total (listOrd PyProof.Rows.itemOrd) false fun b => PySem.W.keyToks (py b)).trans (dn a) (dn b) (dn c)
theorem kle_total (a b : NestedKey) : (kle a b || kle b a) = true := by
  have := (PySem.W.sortLe_total (listOrd PyProof.Rows.itemOrd) false fun b => PySem.W.keyToks (py b)).total (dn a) (dn b)
  rw [Bool.or_eq_true]
  exact this
theorem kle_anti {a b : NestedKey} (h : PySem.W.alike (py (dn a)) (py (dn b)) = true) (h1 : kle a b = true) (h2 : kle b a = true) : a = b := by
  have e : PySem.W.keyToks (py (dn a)) = PySem.W.keyToks (py (dn b)) := by
    refine PyProof.Rows.lex_total (O := PyProof.Rows.itemOrd) _ _ ?_ ?_
    · have : (!PyProof.Rows.lexLt PyProof.Rows.itemOrd (PySem.W.keyToks (py (dn a))) (PySem.W.keyToks (py (dn b)))) = true := h2
      simpa using this
    · have : (!PyProof.Rows.lexLt PyProof.Rows.itemOrd (PySem.W.keyToks (py (dn b))) (PySem.W.keyToks (py (dn a)))) = true := h1
      simpa using this
  have := toks_inj h e
  rw [eqv_dn] at this
  exact NestedKey.eq_of_beq a b this
theorem sortK_perm (ks : List NestedKey) : (sortK ks).Perm ks := List.mergeSort_perm _ _
theorem sorted_eq : ∀ {l1 l2 : List NestedKey}, AlikeK l1 → l1.Perm l2 → l1.Pairwise (fun a b => kle a b = true) → l2.Pairwise (fun a b => kle a b = true) → l1 = l2
  | [], l2, _, hp, _, _ => (List.nil_perm.mp hp).symm
  | a :: l1, [], _, hp, _, _ => absurd hp.length_eq (by simp)
  | a :: l1, b :: l2, ha, hp, h1, h2 => by
    rw [List.pairwise_cons] at h1 h2
    have e : a = b := by
      rcases List.mem_cons.mp (hp.mem_iff.mp (List.mem_cons_self (a := a))) with e | m
      · exact e
      · rcases List.mem_cons.mp (hp.mem_iff.mpr (List.mem_cons_self (a := b))) with e | m'
        · exact e.symm
        · exact kle_anti (ha a List.mem_cons_self b (List.mem_cons_of_mem _ m')) (h1.1 b m') (h2.1 a m)
    subst e
    rw [sorted_eq (fun x hx y hy => ha x (List.mem_cons_of_mem _ hx) y (List.mem_cons_of_mem _ hy)) hp.cons_inv h1.2 h2.2]
theorem sortK_sorted (ks : List NestedKey) : (sortK ks).Pairwise fun a b => kle a b = true := List.pairwise_mergeSort (le := kle) kle_trans kle_total ks
theorem sortK_unique {k1 k2 : List NestedKey} (h : AlikeK k1) (hp : k1.Perm k2) : sortK k1 = sortK k2 :=
  sorted_eq (fun a ha b hb => h a ((sortK_perm k1).mem_iff.mp ha) b ((sortK_perm k1).mem_iff.mp hb)) (((sortK_perm k1).trans hp).trans (sortK_perm k2).symm) (sortK_sorted _) (sortK_sorted _)
theorem sortK_mem {ks : List NestedKey} {k : NestedKey} : k ∈ sortK ks ↔ k ∈ ks := (sortK_perm ks).mem_iff
theorem sortK_len {ks : List NestedKey} : (sortK ks).length = ks.length := (sortK_perm ks).length_eq
theorem sortK_nodup {ks : List NestedKey} (h : ks.Nodup) : (sortK ks).Nodup := (sortK_perm ks).symm.nodup h
theorem sortOk_dn {ks : List NestedKey} (ha : AlikeK ks) (hs : ∀ k ∈ ks, ∃ x r, k = .tup (x :: r)) (hd : ∀ k ∈ ks, k.depth ≤ 60) (hl : ks.length ≤ sizeLine) : SortOk (ks.map dn) := by
  refine ⟨?_, fun d hd1 d' hd2 => ?_, .inl fun d hd1 => ?_, fun x hx => ?_, by simpa using hl⟩
  · rw [← dns_eq]; exact purL_dns ks
  · rw [List.map_map] at hd1 hd2
    obtain ⟨a, h1, rfl⟩ := List.mem_map.mp hd1
    obtain ⟨b, h2, rfl⟩ := List.mem_map.mp hd2
    exact ha a h1 b h2
  · rw [List.map_map] at hd1
    obtain ⟨a, h1, rfl⟩ := List.mem_map.mp hd1
    obtain ⟨x, r, rfl⟩ := hs a h1
    exact ⟨py (dn x), pyL (dns r), by simp only [Function.comp, dn, dns, py, pyL]⟩
  · obtain ⟨a, h1, rfl⟩ := List.mem_map.mp hx
    rw [depth_dn]
    exact hd a h1
/-! ### rows of entries -/
section
variable {κ α : Type} [DecidableEq κ]
theorem keys_pts : ∀ (more r : List (κ × α)) (k : κ), k ∈ (pts r more).map (·.1) ↔ k ∈ r.map (·.1) ∨ k ∈ more.map (·.1)
  | [], r, k => by simp [pts]
  | (k', d) :: more, r, k => by
    have := keys_pts more (pt r k' d) k
    simp only [pts, List.foldl_cons, List.map_cons, List.mem_cons] at this ⊢
    rw [this, keys_pt]
    split
    · rename_i h
      constructor
      · rintro (q | q)
        · exact .inl q
        · exact .inr (.inr q)
      · rintro (q | rfl | q)
        · exact .inl q
        · exact .inl h
        · exact .inr q
    · rw [List.mem_append, List.mem_singleton]
      constructor
      · rintro ((q | q) | q)
        · exact .inl q
        · exact .inr (.inl q)
        · exact .inr (.inr q)
      · rintro (q | q | q)
        · exact .inl (.inl q)
        · exact .inl (.inr q)
        · exact .inr q
theorem nodup_pts : ∀ (more r : List (κ × α)), (r.map (·.1)).Nodup → ((pts r more).map (·.1)).Nodup
  | [], r, h => h
  | (k', d) :: more, r, h => nodup_pts more (pt r k' d) (nodup_pt h)
theorem lk_pts_none : ∀ (more r : List (κ × α)) (k : κ), k ∉ more.map (·.1) → lk (pts r more) k = lk r k
  | [], r, k, _ => rfl
  | (k', d) :: more, r, k, h => by
    simp only [List.map_cons, List.mem_cons, not_or] at h
    have := lk_pts_none more (pt r k' d) k h.2
    simp only [pts, List.foldl_cons] at this ⊢
    rw [this, lk_pt, if_neg fun e => h.1 e.symm]
theorem lk_pts_nodup : ∀ (more r : List (κ × α)) (k : κ) (d : α), (more.map (·.1)).Nodup → (k, d) ∈ more → lk (pts r more) k = some d
  | (k', d') :: more, r, k, d, hn, hm => by
    simp only [List.map_cons, List.nodup_cons] at hn
    simp only [pts, List.foldl_cons]
    rcases List.mem_cons.mp hm with e | hm
    · simp only [Prod.mk.injEq] at e
      obtain ⟨rfl, rfl⟩ := e
      have := lk_pts_none more (pt r k d) k hn.1
      simp only [pts] at this
      rw [this, lk_pt, if_pos rfl]
    · exact lk_pts_nodup more (pt r k' d') k d hn.2 hm
theorem len_pts : ∀ (more r : List (κ × α)), (pts r more).length ≤ r.length + more.length
  | [], r => Nat.le_refl _
  | (k', d) :: more, r => by
    have h1 := len_pts more (pt r k' d)
    have h2 := len_pt r k' d
    simp only [pts, List.foldl_cons, List.length_cons] at h1 ⊢
    omega
/-- all keys new, in their order -/
theorem pts_new : ∀ (more r : List (κ × α)), ((r ++ more).map (·.1)).Nodup → pts r more = r ++ more
  | [], r, _ => by simp [pts]
  | (k, d) :: more, r, h => by
    have e : pt r k d = r ++ [(k, d)] := by
      have hk : k ∉ r.map (·.1) := fun hk => by
        rw [List.map_append, List.nodup_append] at h
        exact h.2.2 k hk k (by simp) rfl
      clear h
      induction r with
      | nil => rfl
      | cons x r ih =>
        simp only [List.map_cons, List.mem_cons, not_or] at hk
        rw [pt, if_neg fun z => hk.1 z.symm, ih hk.2]
        rfl
    have := pts_new more (pt r k d) (by rw [e, List.append_assoc]; exact h)
    simp only [pts, List.foldl_cons] at this ⊢
    rw [this, e, List.append_assoc]
    rfl
end
/-! ### comprehensions of mirrors -/
theorem vCol_map {β : Type} {F : D → Res (Option D)} {enc : β → D} {f : β → D} : ∀ {as : List β}, (∀ a ∈ as, F (enc a) = .ok (some (f a))) → vCol F (as.map enc) = .ok (as.map f)
  | [], _ => rfl
  | a :: as, h => by
    simp only [List.map_cons, vCol, h a List.mem_cons_self, Res.bind, vCol_map fun b hb => h b (List.mem_cons_of_mem _ hb)]
theorem vCol_filterMap {β : Type} {F : D → Res (Option D)} {enc : β → D} {f : β → Option D} : ∀ {as : List β}, (∀ a ∈ as, F (enc a) = .ok (f a)) → vCol F (as.map enc) = .ok (as.filterMap f)
  | [], _ => rfl
  | a :: as, h => by
    simp only [List.map_cons, vCol, h a List.mem_cons_self, Res.bind, vCol_filterMap fun b hb => h b (List.mem_cons_of_mem _ hb)]
    cases q : f a <;> simp [q]
theorem vCol_filter {β : Type} {F : D → Res (Option D)} {enc : β → D} {f : β → D} {p : β → Bool} {as : List β} (h : ∀ a ∈ as, F (enc a) = .ok (if p a = true then some (f a) else none)) : vCol F (as.map enc) = .ok ((as.filter p).map f) := by
  rw [vCol_filterMap (f := fun a => if p a = true then some (f a) else none) h]
  clear h
  congr 1
  induction as with
  | nil => rfl
  | cons a as ih => cases q : p a <;> simp [q, ih]
/-- a for that goes through -/
theorem vTurns_fold {β : Type} {g : D → Ro → Option Ro} {b : Ro → SR} {enc : β → D} (I : List β → Ro → Prop) {as : List β} {ρ : Ro} (h0 : I [] ρ)
    (step : ∀ pre a post ρ, as = pre ++ a :: post → I pre ρ → ∃ ρ1 ρ2, g (enc a) ρ = some ρ1 ∧ (b ρ1 = .nx ρ2 ∨ b ρ1 = .ct ρ2) ∧ I (pre ++ [a]) ρ2) : ∃ ρ', vTurns g b (as.map enc) ρ = .nx ρ' ∧ I as ρ' := by
  have : ∀ (post pre : List β) (ρ : Ro), as = pre ++ post → I pre ρ → ∃ ρ', vTurns g b (post.map enc) ρ = .nx ρ' ∧ I as ρ' := by
    intro post
    induction post with
    | nil => intro pre ρ e h; exact ⟨ρ, rfl, by rw [e, List.append_nil]; exact h⟩
    | cons a post ih =>
      intro pre ρ e h
      obtain ⟨ρ1, ρ2, e1, e2, h2⟩ := step pre a post ρ e h
      obtain ⟨ρ', e3, h3⟩ := ih (pre ++ [a]) ρ2 (by rw [e, List.append_assoc]; rfl) h2
      refine ⟨ρ', ?_, h3⟩
      rw [List.map_cons, vTurns]
      simp only [e1]
      rcases e2 with e2 | e2 <;> simp only [e2] <;> exact e3
  exact this as [] ρ rfl h0
end Dl

/-! Rows by which mirrors are worked out (each is its definition). -/
namespace Dl
open PySem PySem.Spec PyProof.Rows L2
section
variable {α β : Type} {w : World} {ρ ρ' : Ro} {f fa fb fc fo fk fv : Ro → Res D} {t u tt : Ro → Res Bool} {s s' b : Ro → SR} {r r' fi : Ro → Res (List D)} {g : D → Ro → Option Ro} {gs : List D → Ro → Option Ro} {i j n k : Nat} {d e x y z : D} {ds xs ys dd : List D} {ix vs : List Nat} {v : D → D → Option D} {v1 : D → Option D} {vb : D → D → Option Bool} {va : List D → Option D} {C : Addr} {fs : List (Str × D)} {nm : Str} {m : List D → Res D} {kk : α → Res β} {ks : α → SR} {a : α} {ans : Ty → Option Bool} {N : List Str} {l h : Ro → Res (Option Int)} {nms : List Str} {F : D → Res (Option D)} {q : Bool}
variable {o0 : Option D} {i0 j0 : Int} {o1 o2 : Option Int}
theorem r_bind_ok : Res.bind (.ok a) kk = kk a := rfl
theorem r_bind_er : Res.bind (.er C fs) kk = .er C fs := rfl
theorem r_bind_no : Res.bind .no kk = .no := rfl
theorem r_of_some : Res.of (some a) = .ok a := rfl
theorem r_of_none : (Res.of (none : Option α)) = .no := rfl
theorem r_tot_ok : Res.tot (.ok a) = .ok a := rfl
theorem r_sof_ok : SR.of (.ok a) ks = ks a := rfl
theorem r_sof_er : SR.of (.er C fs) ks = .er C fs := rfl
theorem r_sof_no : SR.of .no ks = .no := rfl
theorem r_sb_nx : SR.bind (.nx ρ) s = s ρ := rfl
theorem r_sb_rt : SR.bind (.rt d) s = .rt d := rfl
theorem r_sb_er : SR.bind (.er C fs) s = .er C fs := rfl
theorem r_sb_bk : SR.bind (.bk ρ) s = .bk ρ := rfl
theorem r_sb_ct : SR.bind (.ct ρ) s = .ct ρ := rfl
theorem r_out_nx : outR (.nx ρ) = .ok .non := rfl
theorem r_out_rt : outR (.rt d) = .ok d := rfl
theorem r_out_er : outR (.er C fs) = .er C fs := rfl
theorem r_var : vVar i ρ = Res.of (slot ρ i) := rfl
theorem r_c : vC d ρ = .ok d := rfl
theorem r_op : vOp v fa fb ρ = (fa ρ).bind fun x => (fb ρ).bind fun y => Res.of (v x y) := rfl
theorem r_un : vUn v1 fa ρ = (fa ρ).bind fun x => Res.of (v1 x) := rfl
theorem r_cmp : vCmp vb fa fb ρ = (fa ρ).bind fun x => (fb ρ).bind fun y => Res.of (vb x y) := rfl
theorem r_bl : vBl vb x y = (vb x y).map D.bl := rfl
theorem r_test : vTest f ρ = (f ρ).bind fun x => Res.of (bolD x) := rfl
theorem r_andT : vAndT t u ρ = (t ρ).bind fun z => if z = true then u ρ else .ok false := rfl
theorem r_orT : vOrT t u ρ = (t ρ).bind fun z => if z = true then .ok true else u ρ := rfl
theorem r_notT : vNotT t ρ = (t ρ).bind fun z => .ok (!z) := rfl
theorem r_ifE : vIfE t fa fb ρ = (t ρ).bind fun z => if z = true then fa ρ else fb ρ := rfl
theorem r_and : vAnd fa fb ρ = (fa ρ).bind fun x => (Res.of (bolD x)).bind fun z => if z = true then fb ρ else .ok (.bl false) := rfl
theorem r_or : vOr fa fb ρ = (fa ρ).bind fun x => (Res.of (bolD x)).bind fun z => if z = true then .ok (.bl true) else fb ρ := rfl
theorem r_not : vNot fa ρ = (fa ρ).bind fun x => (Res.of (bolD x)).bind fun z => .ok (.bl (!z)) := rfl
theorem r_bol : bolD (.bl q) = some q := rfl
theorem r_nil : vNil ρ = .ok [] := rfl
theorem r_cons : vCons f r ρ = (f ρ).bind fun x => (r ρ).bind fun xs => .ok (x :: xs) := rfl
theorem r_star : vStar f r ρ = (f ρ).bind fun x => (Res.of (rowD x)).bind fun ys => (r ρ).bind fun xs => .ok (ys ++ xs) := rfl
theorem r_tup : vTup r ρ = (r ρ).bind fun xs => if xs.length ≤ sizeLine then .ok (.tup xs) else .no := rfl
theorem r_lst : vLst r ρ = (r ρ).bind fun xs => if xs.length ≤ sizeLine then .ok (.lst xs) else .no := rfl
theorem r_no : vNo ρ = .ok none := rfl
theorem r_some : vSome f ρ = (f ρ).bind fun x => (Res.of (intD x)).bind fun i => .ok (some i) := rfl
theorem r_slice : vSlice f l h ρ = (f ρ).bind fun x => (l ρ).bind fun i => (h ρ).bind fun j => Res.of (vSl x i j) := rfl
theorem r_arg : vArg va r ρ = (r ρ).bind fun ds => Res.of (va ds) := rfl
theorem r_is : vIs ans f ρ = (f ρ).bind fun x => (Res.of (vIsi ans x)).bind fun z => .ok (.bl z) := rfl
theorem r_call : vCall m dd ix r ρ = (r ρ).bind fun ds => m (pick ix (ds ++ dd)) := rfl
theorem r_lenA : vLenA n r ρ = (r ρ).bind fun xs => if xs.length = n then .ok xs else .no := rfl
theorem r_both : vBoth r r' ρ = (r ρ).bind fun xs => (r' ρ).bind fun ys => .ok (xs ++ ys) := rfl
theorem r_rows : vRows f ρ = (f ρ).bind fun x => Res.of (rowD x) := rfl
theorem r_rng : vRng f ρ = (f ρ).bind fun x => (Res.of (intD x)).bind fun j => if -(2 ^ 62) ≤ j ∧ j < 2 ^ 62 then .ok (rng 0 j.toNat) else .no := rfl
theorem r_rngC : vRngC f ρ = (f ρ).bind fun x => (Res.of (intD x)).bind fun j => if -(2 ^ 62) ≤ j ∧ j < 2 ^ 62 ∧ j.toNat ≤ sizeLine then .ok (rng 0 j.toNat) else .no := rfl
theorem r_yes : vYes ρ = .ok true := rfl
theorem r_lc : vLc fi g tt f vs ρ = (fi ρ).bind fun xs => (vCol (vItem g tt f (wipeD ρ vs)) xs).tot.bind fun ys => .ok (.lst ys) := rfl
theorem r_item : vItem g tt f ρ x = (match g x ρ with | some ρ1 => (tt ρ1).bind fun z => if z = true then (f ρ1).bind fun y => .ok (some y) else .ok none | none => .no) := rfl
theorem r_tgName : tgName i d ρ = some (ρ.set i (some d)) := rfl
theorem r_tgNil : tgNil [] ρ = some ρ := rfl
theorem r_tgCons : tgCons g gs (d :: ds) ρ = (match g d ρ with | some ρ1 => gs ds ρ1 | none => none) := rfl
theorem r_tgTup : tgTup n gs (.tup ds) ρ = if ds.length = n then gs ds ρ else none := rfl
theorem r_seq : vSeq s s' ρ = (s ρ).bind s' := rfl
theorem r_next : vNext ρ = .nx ρ := rfl
theorem r_set : vSet f i ρ = SR.of (f ρ) fun d => .nx (ρ.set i (some d)) := rfl
theorem r_asg : vAsg f g ρ = SR.of (f ρ) fun d => match g d ρ with | some ρ' => .nx ρ' | none => .no := rfl
theorem r_par : vPar i j r ρ = SR.of (r ρ) fun ds => match ds with | [x, y] => .nx ((ρ.set i (some x)).set j (some y)) | _ => .no := rfl
theorem r_drop : vDrop f ρ = SR.of (f ρ) fun _ => .nx ρ := rfl
theorem r_if : vIf t s s' ρ = SR.of (t ρ) fun z => if z = true then s ρ else s' ρ := rfl
theorem r_ret : vRet f ρ = SR.of (f ρ) .rt := rfl
theorem r_retN : vRetN ρ = .rt .non := rfl
theorem r_raise : vRaise C r nms ρ = SR.of (r ρ) fun ds => if ds.length = nms.length then .er C (nms.zip ds).reverse else .no := rfl
theorem r_for : vFor fi g b ρ = SR.of (fi ρ) fun xs => vTurns g b xs ρ := rfl
theorem r_new : vNew f i ρ = SR.of (f ρ) fun d => if i < ρ.length then .nx (ρ.set i (some d)) else .no := rfl
theorem r_freeze : vFreeze i s ρ = (match slot ρ i with | some _ => vFrz i s ρ | none => .no) := rfl
theorem r_frz : vFrz i s ρ = (match s ρ with | .nx ρ' => .nx (ρ'.set i none) | .bk ρ' => .bk (ρ'.set i none) | .ct ρ' => .ct (ρ'.set i none) | r => r) := rfl
theorem r_nnew : vNNew w ρ = .ok (.dN w []) := rfl
theorem r_nset : vNSet w i fk fv ρ = SR.of (fv ρ) fun v => match slot ρ i with | some x => (match dnOf w x with | some kvs => SR.of (fk ρ) fun y => (match nkOf y with | some k => if kvs.length < sizeLine then .nx (ρ.set i (some (.dN w (pt kvs k v)))) else .no | none => .no) | none => .no) | none => .no := rfl
theorem r_npop : vNPop w i r ρ = (match slot ρ i with | some x => (match dnOf w x with | some kvs => SR.of (r ρ) fun ds => (match ds with | [y, _] => (match nkOf y with | some k => .nx (ρ.set i (some (.dN w (rm kvs k)))) | none => .no) | _ => .no) | none => .no) | none => .no) := rfl
theorem r_lcN : vLcN w i g tt f vs ρ = (match slot ρ i with | some x => (match dnOf w x with | some kvs => (vCol (vItem g tt f (wipeD (ρ.set i none) vs)) (kvs.map fun kv => dn kv.1)).tot.bind fun ys => if kvs.length ≤ sizeLine then .ok (.lst ys) else .no | none => .no) | none => .no) := rfl
theorem r_app : vApp i f ρ = (match slot ρ i with | some (.lst xs) => SR.of (f ρ) fun y => if xs.length < sizeLine then .nx (ρ.set i (some (.lst (xs ++ [y])))) else .no | _ => .no) := rfl
theorem r_nix : vNIx w x y = (dnOf w x).bind fun kvs => (nkOf y).bind fun k => lk kvs k := rfl
theorem r_nin : cNIn w y x = (dnOf w x).bind fun kvs => (nkOf y).bind fun k => some (lk kvs k).isSome := rfl
theorem r_nget : vNGet w fo r ρ = (fo ρ).bind fun x => (Res.of (dnOf w x)).bind fun kvs => (r ρ).bind fun ds => match ds with | [y, z] => (Res.of (nkOf y)).bind fun k => .ok ((lk kvs k).getD z) | _ => .no := rfl
theorem r_nlen : vNLen w x = (dnOf w x).bind fun kvs => some (.int kvs.length) := rfl
theorem r_isi : vIsi ans x = (tyV x).bind ans := rfl
theorem r_row_l : rowD (.lst xs) = some xs := rfl
theorem r_row_t : rowD (.tup xs) = some xs := rfl
theorem r_row_s : rowD (.sq xs) = some xs := rfl
theorem r_slot0 : slot (some d :: ρ) 0 = some d := rfl
theorem r_slotS : slot (o0 :: ρ) (i + 1) = slot ρ i := rfl
theorem r_len_tup : vLen (.tup xs) = some (.int xs.length) := rfl
theorem r_len_lst : vLen (.lst xs) = some (.int xs.length) := rfl
theorem r_ix_t : vIx (.tup xs) (.int i0) = L2.atI xs i0 := rfl
theorem r_ix_l : vIx (.lst xs) (.int i0) = L2.atI xs i0 := rfl
theorem r_add_i : vAdd (.int i0) (.int j0) = some (.int (i0 + j0)) := rfl
theorem r_sub_i : vSub (.int i0) (.int j0) = some (.int (i0 - j0)) := rfl
theorem r_neg_i : vNeg (.int i0) = some (.int (-i0)) := rfl
theorem r_int_i : vInt (.int i0) = some (.int i0) := rfl
theorem r_intD : intD (.int i0) = some i0 := rfl
theorem r_min2 : vMin2 [.int i0, .int j0] = some (.int (if j0 < i0 then j0 else i0)) := rfl
theorem r_max2 : vMax2 [.int i0, .int j0] = some (.int (if j0 > i0 then j0 else i0)) := rfl
theorem r_tuple_l : vTuple (.lst xs) = some (.tup xs) := rfl
theorem r_tuple_t : vTuple (.tup xs) = some (.tup xs) := rfl
theorem r_list_l : vList (.lst xs) = some (.lst xs) := rfl
theorem r_list_t : vList (.tup xs) = some (.lst xs) := rfl
theorem r_sl_t : vSl (.tup xs) o1 o2 = some (.tup (cutD xs o1 o2)) := rfl
theorem r_sl_l : vSl (.lst xs) o1 o2 = some (.lst (cutD xs o1 o2)) := rfl
theorem sl_0 : (0 ≤ sizeLine) = True := eq_true (sz (by decide))
theorem st_0 : (0 < sizeLine) = True := eq_true (Nat.lt_of_lt_of_le (show 0 < 10000 by decide) (sz (Nat.le_refl _)))
theorem sl_1 : (1 ≤ sizeLine) = True := eq_true (sz (by decide))
theorem st_1 : (1 < sizeLine) = True := eq_true (Nat.lt_of_lt_of_le (show 1 < 10000 by decide) (sz (Nat.le_refl _)))
theorem sl_2 : (2 ≤ sizeLine) = True := eq_true (sz (by decide))
theorem st_2 : (2 < sizeLine) = True := eq_true (Nat.lt_of_lt_of_le (show 2 < 10000 by decide) (sz (Nat.le_refl _)))
theorem sl_3 : (3 ≤ sizeLine) = True := eq_true (sz (by decide))
theorem st_3 : (3 < sizeLine) = True := eq_true (Nat.lt_of_lt_of_le (show 3 < 10000 by decide) (sz (Nat.le_refl _)))
theorem sl_4 : (4 ≤ sizeLine) = True := eq_true (sz (by decide))
theorem st_4 : (4 < sizeLine) = True := eq_true (Nat.lt_of_lt_of_le (show 4 < 10000 by decide) (sz (Nat.le_refl _)))
theorem sl_5 : (5 ≤ sizeLine) = True := eq_true (sz (by decide))
theorem st_5 : (5 < sizeLine) = True := eq_true (Nat.lt_of_lt_of_le (show 5 < 10000 by decide) (sz (Nat.le_refl _)))
theorem sl_6 : (6 ≤ sizeLine) = True := eq_true (sz (by decide))
theorem st_6 : (6 < sizeLine) = True := eq_true (Nat.lt_of_lt_of_le (show 6 < 10000 by decide) (sz (Nat.le_refl _)))
theorem sl_7 : (7 ≤ sizeLine) = True := eq_true (sz (by decide))
theorem st_7 : (7 < sizeLine) = True := eq_true (Nat.lt_of_lt_of_le (show 7 < 10000 by decide) (sz (Nat.le_refl _)))
theorem sl_8 : (8 ≤ sizeLine) = True := eq_true (sz (by decide))
theorem st_8 : (8 < sizeLine) = True := eq_true (Nat.lt_of_lt_of_le (show 8 < 10000 by decide) (sz (Nat.le_refl _)))
theorem sl_9 : (9 ≤ sizeLine) = True := eq_true (sz (by decide))
theorem st_9 : (9 < sizeLine) = True := eq_true (Nat.lt_of_lt_of_le (show 9 < 10000 by decide) (sz (Nat.le_refl _)))
theorem sl_10 : (10 ≤ sizeLine) = True := eq_true (sz (by decide))
theorem st_10 : (10 < sizeLine) = True := eq_true (Nat.lt_of_lt_of_le (show 10 < 10000 by decide) (sz (Nat.le_refl _)))
theorem sl_11 : (11 ≤ sizeLine) = True := eq_true (sz (by decide))
theorem st_11 : (11 < sizeLine) = True := eq_true (Nat.lt_of_lt_of_le (show 11 < 10000 by decide) (sz (Nat.le_refl _)))
theorem sl_12 : (12 ≤ sizeLine) = True := eq_true (sz (by decide))
theorem st_12 : (12 < sizeLine) = True := eq_true (Nat.lt_of_lt_of_le (show 12 < 10000 by decide) (sz (Nat.le_refl _)))
theorem sl_13 : (13 ≤ sizeLine) = True := eq_true (sz (by decide))
theorem st_13 : (13 < sizeLine) = True := eq_true (Nat.lt_of_lt_of_le (show 13 < 10000 by decide) (sz (Nat.le_refl _)))
theorem sl_14 : (14 ≤ sizeLine) = True := eq_true (sz (by decide))
theorem st_14 : (14 < sizeLine) = True := eq_true (Nat.lt_of_lt_of_le (show 14 < 10000 by decide) (sz (Nat.le_refl _)))
theorem sl_15 : (15 ≤ sizeLine) = True := eq_true (sz (by decide))
theorem st_15 : (15 < sizeLine) = True := eq_true (Nat.lt_of_lt_of_le (show 15 < 10000 by decide) (sz (Nat.le_refl _)))
theorem sl_16 : (16 ≤ sizeLine) = True := eq_true (sz (by decide))
theorem st_16 : (16 < sizeLine) = True := eq_true (Nat.lt_of_lt_of_le (show 16 < 10000 by decide) (sz (Nat.le_refl _)))
theorem sl_17 : (17 ≤ sizeLine) = True := eq_true (sz (by decide))
theorem st_17 : (17 < sizeLine) = True := eq_true (Nat.lt_of_lt_of_le (show 17 < 10000 by decide) (sz (Nat.le_refl _)))
theorem sl_18 : (18 ≤ sizeLine) = True := eq_true (sz (by decide))
theorem st_18 : (18 < sizeLine) = True := eq_true (Nat.lt_of_lt_of_le (show 18 < 10000 by decide) (sz (Nat.le_refl _)))
theorem sl_19 : (19 ≤ sizeLine) = True := eq_true (sz (by decide))
theorem st_19 : (19 < sizeLine) = True := eq_true (Nat.lt_of_lt_of_le (show 19 < 10000 by decide) (sz (Nat.le_refl _)))
theorem sl_20 : (20 ≤ sizeLine) = True := eq_true (sz (by decide))
theorem st_20 : (20 < sizeLine) = True := eq_true (Nat.lt_of_lt_of_le (show 20 < 10000 by decide) (sz (Nat.le_refl _)))
theorem sl_21 : (21 ≤ sizeLine) = True := eq_true (sz (by decide))
theorem st_21 : (21 < sizeLine) = True := eq_true (Nat.lt_of_lt_of_le (show 21 < 10000 by decide) (sz (Nat.le_refl _)))
theorem sl_22 : (22 ≤ sizeLine) = True := eq_true (sz (by decide))
theorem st_22 : (22 < sizeLine) = True := eq_true (Nat.lt_of_lt_of_le (show 22 < 10000 by decide) (sz (Nat.le_refl _)))
theorem sl_23 : (23 ≤ sizeLine) = True := eq_true (sz (by decide))
theorem st_23 : (23 < sizeLine) = True := eq_true (Nat.lt_of_lt_of_le (show 23 < 10000 by decide) (sz (Nat.le_refl _)))
theorem sl_24 : (24 ≤ sizeLine) = True := eq_true (sz (by decide))
theorem st_24 : (24 < sizeLine) = True := eq_true (Nat.lt_of_lt_of_le (show 24 < 10000 by decide) (sz (Nat.le_refl _)))
theorem r_wipe0 : wipeD ρ [] = ρ := rfl
theorem r_wipe : wipeD ρ (i :: vs) = (wipeD ρ vs).set i none := rfl
theorem r_mOf0 : mOf N 0 s [] = outR (s (startD N [])) := rfl
theorem r_mOf1 {a1 : D} : mOf N 1 s [a1] = outR (s (startD N [a1])) := rfl
theorem r_mOf2 {a1 a2 : D} : mOf N 2 s [a1, a2] = outR (s (startD N [a1, a2])) := rfl
theorem r_mOf3 {a1 a2 a3 : D} : mOf N 3 s [a1, a2, a3] = outR (s (startD N [a1, a2, a3])) := rfl
theorem r_mOf4 {a1 a2 a3 a4 : D} : mOf N 4 s [a1, a2, a3, a4] = outR (s (startD N [a1, a2, a3, a4])) := rfl
theorem r_mOf5 {a1 a2 a3 a4 a5 : D} : mOf N 5 s [a1, a2, a3, a4, a5] = outR (s (startD N [a1, a2, a3, a4, a5])) := rfl
theorem r_mOf6 {a1 a2 a3 a4 a5 a6 : D} : mOf N 6 s [a1, a2, a3, a4, a5, a6] = outR (s (startD N [a1, a2, a3, a4, a5, a6])) := rfl
theorem r_mOf (h : ds.length = n) : mOf N n s ds = outR (s (startD N ds)) := if_pos h
theorem atI_n {α : Type} {xs : List α} {n : Nat} (h : n < xs.length) : L2.atI xs (n : Int) = xs[n]? := by
  unfold L2.atI L2.ixN
  rw [if_pos (by omega), if_pos (by omega)]
  rfl
theorem atI_0 {α : Type} {x : α} {xs : List α} : L2.atI (x :: xs) 0 = some x := atI_n (n := 0) (by simp)
theorem atI_1 {α : Type} {x y : α} {xs : List α} : L2.atI (x :: y :: xs) 1 = some y := atI_n (n := 1) (by simp)
theorem atI_2 {α : Type} {x y z : α} {xs : List α} : L2.atI (x :: y :: z :: xs) 2 = some z := atI_n (n := 2) (by simp)
theorem atI_3 {α : Type} {x y z u : α} {xs : List α} : L2.atI (x :: y :: z :: u :: xs) 3 = some u := atI_n (n := 3) (by simp)
/-- a for, with what comes behind it -/
theorem turns_out {γ : Type} {enc : γ → D} {as : List γ} {kr : Ro → SR} {R : Res D} (I : List γ → Ro → Prop) (h0 : I [] ρ)
    (step : ∀ pre a post ρ, as = pre ++ a :: post → I pre ρ → ∃ ρ1 ρ2, g (enc a) ρ = some ρ1 ∧ (b ρ1 = .nx ρ2 ∨ b ρ1 = .ct ρ2) ∧ I (pre ++ [a]) ρ2)
    (fin : ∀ ρ', I as ρ' → outR (kr ρ') = R) : outR ((vTurns g b (as.map enc) ρ).bind kr) = R := by
  obtain ⟨ρ', e, h⟩ := vTurns_fold (enc := enc) (as := as) (g := g) (b := b) I h0 step
  rw [e]
  exact fin ρ' h
theorem turns_sr {γ : Type} {enc : γ → D} {as : List γ} {kr : Ro → SR} {R : SR} (I : List γ → Ro → Prop) (h0 : I [] ρ)
    (step : ∀ pre a post ρ, as = pre ++ a :: post → I pre ρ → ∃ ρ1 ρ2, g (enc a) ρ = some ρ1 ∧ (b ρ1 = .nx ρ2 ∨ b ρ1 = .ct ρ2) ∧ I (pre ++ [a]) ρ2)
    (fin : ∀ ρ', I as ρ' → kr ρ' = R) : (vTurns g b (as.map enc) ρ).bind kr = R := by
  obtain ⟨ρ', e, h⟩ := vTurns_fold (enc := enc) (as := as) (g := g) (b := b) I h0 step
  rw [e]
  exact fin ρ' h
end
end Dl

/-! xs[::step] of a list, the step 1 or -1, worked out. -/
namespace Dl
open PySem PySem.Spec PyProof.Rows L2
theorem pick_fore (its : Array Value) : slicePick its none none (some 1) = its.toList.toArray := by
  have e : slicePick its none none (some 1) = slicePick its none none none := rfl
  have l := PySem.W.kmk_pick_nat its (PySem.W.kms_bounds none none its.size)
  rw [e]
  apply Array.ext'
  rw [l]
  simp [PySem.W.kms_lo, PySem.W.kms_hi]
  exact List.take_of_length_le (by simp)
section
variable {X : Cx} {G : Gh} {e st : Expr} {pos p3 : Pos} {te : TE} {tst : TO}
def rSgn : V → Option Int → Hp → VK → Prop := fun x o H Q => ∃ a xs, x = .ref a ∧ H a = some (.lst xs) ∧ ((o = some 1 ∧ ∀ p, H p = none → Q (.ref p) (upd H p (.lst xs))) ∨ (o = some (-1) ∧ ∀ p, H p = none → Q (.ref p) (upd H p (.lst xs.reverse))))
def tSgn (te : TE) (ts : TO) : TE := fun σ H Q => te σ H fun x H1 => ts σ H1 fun o H2 => rSgn x o H2 Q
theorem pe_sgn (he : PE X e te) (hs : PO X (some st) tst) : PE X (.Subscript e (.Slice none none (some st) p3) pos) (tSgn te tst) := ⟨fun pins s σ H Q I h => by
  refine Subscript_ (thn (he.run pins s σ H _ I h) fun v s1 ⟨x, H1, I1, r1, q⟩ => ?_)
  refine wpAny_Slice (thn (po_none.run pins s1 σ H1 (fun o H2 => o = none ∧ H2 = H1) I1 ⟨rfl, rfl⟩) fun vl s2 ⟨_, _, I2, pl, el, e2⟩ => ?_)
  subst el e2
  refine thn (po_none.run pins s2 σ _ (fun o H3 => o = none ∧ H3 = _) I2 ⟨rfl, rfl⟩) fun vu s3 ⟨_, _, I3, pu, eu, e3⟩ => ?_
  subst eu e3
  refine thn (hs.run pins s3 σ _ (fun o H4 => rSgn x o H4 Q) I3 q) fun vs s4 ⟨o, H4, I4, ps, q4⟩ => ?_
  have I5 : Inv X pins σ _ { s4 with heap := s4.heap.push { cls := .type "slice", data := .fields #[vl, vu, vs] } } := I4.kept (t' := s4.toks) fun b ob q => Heap.get?_push_of_some _ q
  show wpAny (model X.prog X.w) X.A (subscriptTail e (.Slice none none (some st) p3) v (.ref s4.heap.objs.size)) (EP X pins σ Q) X.xe { s4 with heap := s4.heap.push { cls := .type "slice", data := .fields #[vl, vu, vs] } }
  obtain ⟨a, xs, ex, hx, q5⟩ := q4
  subst ex
  cases r1
  obtain ⟨its, r, ht, hz⟩ := I5.list (SqL.of hx)
  have hl : its.toArray.size ≤ sizeLine := by rw [List.size_toArray, ← r.length]; exact hz
  rcases q5 with ⟨eo, q⟩ | ⟨eo, q⟩
  · subst eo
    refine tail_any (ops := [.ref a, .ref s4.heap.objs.size]) ht.isList.typeIs PySem.slot_list_getitem.lookup (wpAny_getItem_list_slice ht.isList (Heap.IsSliceOf.new _ vl vu vs) pl pu ps (by decide) ?_ hl) (by with_unfolding_all rfl)
    rw [pick_fore]
    refine ⟨.ref _, _, I5.laid (t' := s4.toks) (o := .lst xs) (fun b ob q => Heap.get?_push_of_some _ q) (Nat.le_refl _) ?_, rfl, q _ (I5.hok.fresh (Nat.le_refl _))⟩
    exact ⟨hz, _, 0, r, Heap.get?_push_size _ rfl⟩
  · subst eo
    refine tail_any (ops := [.ref a, .ref s4.heap.objs.size]) ht.isList.typeIs PySem.slot_list_getitem.lookup (wpAny_getItem_list_slice ht.isList (Heap.IsSliceOf.new _ vl vu vs) pl pu ps (by decide) ?_ hl) (by with_unfolding_all rfl)
    rw [PySem.W.krv_pick]
    refine ⟨.ref _, _, I5.laid (t' := s4.toks) (o := .lst xs.reverse) (fun b ob q => Heap.get?_push_of_some _ q) (Nat.le_refl _) ?_, rfl, q _ (I5.hok.fresh (Nat.le_refl _))⟩
    exact ⟨by rw [List.length_reverse]; exact hz, _, 0, vals_back r, Heap.get?_push_size _ rfl⟩⟩
/-- xs[::step] -/
def dSgn (te : DE) (ts : DO) : DE := fun ρ μ Q => te ρ μ fun x μ1 => ts ρ μ1 fun o μ2 => ∃ xs, vw μ2 x = .lst xs ∧ ((o = some 1 ∧ Q (.lst xs) μ2) ∨ (o = some (-1) ∧ Q (.lst xs.reverse) μ2))
theorem pd_sgn {te : DE} {ts : DO} (he : PD X G e te) (hs : PDO X G (some st) ts) : PD X G (.Subscript e (.Slice none none (some st) p3) pos) (dSgn te ts) := by
  obtain ⟨ee, pe, fe⟩ := he.ex
  obtain ⟨es, ps, fs⟩ := hs.ex
  refine ⟨_, pe_sgn pe ps, @fun σ H ρ μ Q Qd o t k => ?_⟩
  refine fe o t fun x dx H1 μ1 g1 j1 h1 t1 => ?_
  have o1 := o.grow g1 j1
  refine fs o1 t1 fun u H2 μ2 g2 j2 t2 => ?_
  obtain ⟨xs, q, t2⟩ := t2
  have k2 := (k.after g1).after g2
  obtain ⟨a, vs, rfl, ea, l⟩ := (h1.grow g2).nowL j2 q
  refine ⟨a, vs, rfl, ea, ?_⟩
  rcases t2 with ⟨eo, t2⟩ | ⟨eo, t2⟩
  · exact .inl ⟨eo, fun p n => k2.new j2 n (da_lst j2 n l) t2⟩
  · exact .inr ⟨eo, fun p n => k2.new j2 n (da_lst j2 n l.rev) t2⟩
end
end Dl

/-! repr of any data without dicts. -/
namespace Dl
open PySem PySem.Spec PyProof.Rows L2
section
variable {X : Cx} {G : Gh} {a : Expr} {ta : DE} {pos p : Pos} {k : Nat}
theorem call_reprA (hr : Room k X.A) (hgu : X.A.guards = some []) : CallR X (.builtin "repr") (fun xs H Q => ∃ x d, xs = [x] ∧ Dp X.K H x d ∧ d.plain = true ∧ d.showable = true ∧ d.hasDict = false ∧ d.depth ≤ 64 ∧ d.shown.length ≤ sizeLine ∧ Q (.str d.shown) H) := by
  intro pins s σ H xs us Q I r h
  obtain ⟨x, d, rfl, hd, hp, hs, hn, hz, hl, q⟩ := h
  have rr := r
  cases r with | cons rx rr' =>
  cases rr'
  have I1 : ∀ n, Inv X pins σ H { s with toks := n } := fun n => I.kept (h' := s.heap) (t' := n) fun b ob e => e
  cases hd with
  | non =>
    cases rx
    exact PySem.P.repr_of_none ⟨.str "None", H, I1 _, ⟨_, rfl⟩, by simpa only [PyData.shown] using q⟩
  | bl b =>
    cases rx
    exact PySem.P.repr_of_bool ⟨.str _, H, I1 _, ⟨_, rfl⟩, by simpa only [PyData.shown] using q⟩
  | int i =>
    obtain ⟨t, rfl⟩ := rx
    exact PySem.P.repr_of_int (by simpa only [PyData.showable, decide_eq_true_eq] using hs) ⟨.str _, H, I1 _, ⟨_, rfl⟩, by simpa only [PyData.shown] using q⟩
  | str y =>
    obtain ⟨t, rfl⟩ := rx
    exact PySem.P.repr_of_str ⟨.str _, H, I1 _, ⟨_, rfl⟩, by simpa only [PyData.shown] using q⟩ (by simpa only [PyData.shown] using hl)
  | lst h1 h2 =>
    exact call_reprD hr hgu pins s σ H _ _ Q I rr ⟨_, _, rfl, .lst h1 h2, hp, hs, hn, hz, hl, ⟨_, rfl⟩, q⟩
  | tup h1 h2 =>
    exact call_reprD hr hgu pins s σ H _ _ Q I rr ⟨_, _, rfl, .tup h1 h2, hp, hs, hn, hz, hl, ⟨_, rfl⟩, q⟩
def gReprA : List D → Mu → DQ → Prop := fun ds μ Q => match ds with
  | [d] => Shows (vw μ d) ∧ Q (.str (py (vw μ d)).shown) μ
  | _ => False
theorem pd_reprA (hr : Room k X.A) (hgu : X.A.guards = some []) (hm : X.mg "repr" = none) (hv : bootBuiltins "repr" = some (.builtin "repr")) (ha : PD X G a ta) (hg : Gl X "repr" := by rfl) (hs : starEach [a] X.env = (false, eval a X.env) :: starEach [] X.env := by rfl) :
    PD X G (.Call (.Name "repr" p) [a] [] pos) (dCB gReprA (dCons ta dNil)) := by
  refine pd_b (call_reprA hr hgu) (@fun xs ds H μ Q Qd j h g k => ?_) hm hv (pda_cons ha pda_nil hs) hg (by decide) (by decide) hs rfl
  unfold gReprA at g
  split at g
  · obtain ⟨v, rfl, hv⟩ := h.one
    obtain ⟨⟨g2, g3, g4, g5⟩, g6⟩ := g
    exact ⟨v, _, rfl, hv.vdp j g2, py_plain _, g3, py_noDict _, g4, g5, k.now j (.str _) g6⟩
  · exact g.elim
theorem vw_pur {x : D} {μ : Mu} (h : pur x = true) : vw μ x = x := by
  cases x <;> first | rfl | (simp only [pur] at h; cases h)
open Classical in
noncomputable def vReprA (x : D) : Option D := if Shows x then some (.str (py x).shown) else none
variable {Y : Pc} {fa : Ro → Res D}
theorem pv_reprA (hr : Room k X.A) (hgu : X.A.guards = some []) (hm : X.mg "repr" = none) (hv : bootBuiltins "repr" = some (.builtin "repr")) (ha : PD X G a (dV Y fa)) (hg : Gl X "repr" := by rfl) (hs : starEach [a] X.env = (false, eval a X.env) :: starEach [] X.env := by rfl) :
    PD X G (.Call (.Name "repr" p) [a] [] pos) (dV Y (vUn vReprA fa)) := (pd_reprA hr hgu hm hv ha hg hs).mono fun _ _ _ h => dV_b1V (fun {x d μ Q} e q => by
  unfold vReprA at e
  split at e
  · rename_i c
    cases e
    show gReprA [x] μ Q
    unfold gReprA
    simp only [vw_pur c.1]
    exact ⟨c, q⟩
  · cases e) h
end
end Dl

/-! repr of a dict with int and text keys whose values have no lists. -/
namespace Dl
open PySem PySem.Spec PyProof.Rows L2
mutual
def noL : PyData → Bool
  | .list _ | .dict _ => false
  | .tuple xs => noLA xs
  | .none | .bool _ | .int _ | .str _ => true
def noLA : List PyData → Bool
  | [] => true
  | x :: xs => noL x && noLA xs
end
mutual
theorem reads_nil {h : Heap} : ∀ {v : Value} {d : PyData} {as : List Addr}, Reads h v d as → noL d = true → as = []
  | _, _, _, .none, _ => rfl
  | _, _, _, .bool _, _ => rfl
  | _, _, _, .int _ _, _ => rfl
  | _, _, _, .str _ _, _ => rfl
  | _, _, _, .list _ _ _ _, e => by simp only [noL] at e; cases e
  | _, _, _, .tuple _ _ _ r, e => readsAll_nil r (by simpa only [noL] using e)
  | _, _, _, .dict _ _ _ _ _, e => by simp only [noL] at e; cases e
theorem readsAll_nil {h : Heap} : ∀ {vs : List Value} {ds : List PyData} {as : List Addr}, ReadsAll h vs ds as → noLA ds = true → as = []
  | _, _, _, .nil, _ => rfl
  | _, _, _, .cons r rs, e => by
    simp only [noLA, Bool.and_eq_true] at e
    rw [reads_nil r e.1, readsAll_nil rs e.2]
    rfl
end
def keyPy : Key → PyData
  | .inl i => .int i
  | .inr x => .str x
section
variable {X : Cx} {k : Nat}
/-- the values of a dict, by data -/
inductive DpK (K : PySem.W.Frag) (H : Hp) : List (Key × V) → List (PyData × PyData) → Prop
  | nil : DpK K H [] []
  | cons {n : Key} {v : V} {d : PyData} {fv : List (Key × V)} {ds : List (PyData × PyData)} : Dp K H v d → noL d = true → DpK K H fv ds → DpK K H ((n, v) :: fv) ((keyPy n, d) :: ds)
theorem DpK.reads {pins : List (Addr × Obj)} {σ : L2.St} {H : Hp} {s : Shared} (I : Inv X pins σ H s) : ∀ {fv : List (Key × V)} {ds : List (PyData × PyData)} {vs : List (Key × Value)}, DpK X.K H fv ds → KV fv vs → PyProof.V.PairsRead s.heap keyPy vs ds []
  | _, _, _, .nil, r => by cases r; exact .nil
  | _, _, _, .cons h1 h2 h3, r => by
    cases r with
    | cons e rs =>
      rename_i q qs
      obtain ⟨n', u⟩ := q
      obtain ⟨e1, e2⟩ := e
      cases e1
      obtain ⟨as, rd⟩ := Dp.reads I _ _ _ h1 e2
      have := reads_nil rd h2
      subst this
      have ih := DpK.reads I h3 rs
      exact .cons (as := []) (bs := []) rd ih
theorem call_reprK (hr : Room k X.A) (hgu : X.A.guards = some []) : CallR X (.builtin "repr") (fun xs H Q => ∃ a fv ds, xs = [.ref a] ∧ H a = some (.dK fv) ∧ DpK X.K H fv ds ∧ (PyData.dict ds).showable = true ∧ (PyData.dict ds).depth ≤ 64 ∧ (PyData.dict ds).shown.length ≤ sizeLine ∧ Q (.str (PyData.dict ds).shown) H) := by
  intro pins s σ H xs us Q I r h
  obtain ⟨a, fv, ds, rfl, ha, hd, hs, hz, hl, q⟩ := h
  cases r with | cons rx rr =>
  cases rr
  cases rx
  obtain ⟨hn, hsys, vs, kv, hdo⟩ := dk_of I.hok ha
  have rd := PyProof.V.reads_dictOf (enc := keyPy) (fun n key e => by
    rcases keyIs_shape e with ⟨i, t, rfl, rfl⟩ | ⟨x, t, rfl, rfl⟩
    · exact Reads.int _ _
    · exact Reads.str _ _) hdo (hd.reads I kv)
  have hu := hr.un
  refine repr_of_reads' (h₀ := s.heap) rd hs (fun _ hm => ?_) hgu (by omega) (fun _ _ e => e) (fun h' u tk kk => ?_) hl
  · rw [List.mem_singleton] at hm
    rw [hm] at hsys
    simp at hsys
  · exact ⟨.str _, H, I.kept kk, ⟨u, rfl⟩, q⟩
end
end Dl
namespace Dl
open PySem PySem.Spec PyProof.Rows L2
section
variable {X : Cx} {G : Gh} {Y : Pc} {a : Expr} {ta : DE} {fa : Ro → Res D} {pos p : Pos} {k : Nat}
def pyK (kvs : List (Key × D)) : PyData := .dict (kvs.map fun kv => (keyPy kv.1, py kv.2))
/-- a dict that can be shown -/
def ShowsK (kvs : List (Key × D)) : Prop := (∀ kv ∈ kvs, pur kv.2 = true ∧ noL (py kv.2) = true) ∧ (pyK kvs).showable = true ∧ (pyK kvs).depth ≤ 64 ∧ (pyK kvs).shown.length ≤ sizeLine
theorem dpK_of {K : PySem.W.Frag} {μ : Mu} {H : Hp} (j : J K μ H) : ∀ {fv : List (Key × V)} {kvs : List (Key × D)}, DaK K μ H fv kvs → (∀ kv ∈ kvs, pur kv.2 = true ∧ noL (py kv.2) = true) → DpK K H fv (kvs.map fun kv => (keyPy kv.1, py kv.2))
  | _, _, .nil, _ => .nil
  | _, _, .cons h t, e => by
    obtain ⟨e1, e2⟩ := e _ List.mem_cons_self
    have := h.vdp j (by rw [vw_pur e1]; exact e1)
    rw [vw_pur e1] at this
    exact .cons this e2 (dpK_of j t fun kv hk => e kv (List.mem_cons_of_mem _ hk))
theorem call_reprX (hr : Room k X.A) (hgu : X.A.guards = some []) : CallR X (.builtin "repr") (fun xs H Q => (∃ x d, xs = [x] ∧ Dp X.K H x d ∧ d.plain = true ∧ d.showable = true ∧ d.hasDict = false ∧ d.depth ≤ 64 ∧ d.shown.length ≤ sizeLine ∧ Q (.str d.shown) H) ∨ ∃ a fv ds, xs = [.ref a] ∧ H a = some (.dK fv) ∧ DpK X.K H fv ds ∧ (PyData.dict ds).showable = true ∧ (PyData.dict ds).depth ≤ 64 ∧ (PyData.dict ds).shown.length ≤ sizeLine ∧ Q (.str (PyData.dict ds).shown) H) := by
  intro pins s σ H xs us Q I r h
  rcases h with h | h
  · exact call_reprA hr hgu pins s σ H xs us Q I r h
  · exact call_reprK hr hgu pins s σ H xs us Q I r h
def gReprX : List D → Mu → DQ → Prop := fun ds μ Q => ∃ d, ds = [d] ∧ ((Shows (vw μ d) ∧ Q (.str (py (vw μ d)).shown) μ) ∨ ∃ kvs, dkK μ d kvs ∧ ShowsK kvs ∧ Q (.str (pyK kvs).shown) μ)
theorem pd_reprX (hr : Room k X.A) (hgu : X.A.guards = some []) (hm : X.mg "repr" = none) (hv : bootBuiltins "repr" = some (.builtin "repr")) (ha : PD X G a ta) (hg : Gl X "repr" := by rfl) (hs : starEach [a] X.env = (false, eval a X.env) :: starEach [] X.env := by rfl) :
    PD X G (.Call (.Name "repr" p) [a] [] pos) (dCB gReprX (dCons ta dNil)) := by
  refine pd_b (call_reprX hr hgu) (@fun xs ds H μ Q Qd j h g k => ?_) hm hv (pda_cons ha pda_nil hs) hg (by decide) (by decide) hs rfl
  obtain ⟨d, rfl, g⟩ := g
  obtain ⟨v, rfl, hv⟩ := h.one
  rcases g with ⟨⟨g2, g3, g4, g5⟩, g6⟩ | ⟨kvs, e, ⟨s1, s2, s3, s4⟩, g6⟩
  · exact .inl ⟨v, _, rfl, hv.vdp j g2, py_plain _, g3, py_noDict _, g4, g5, k.now j (.str _) g6⟩
  · obtain ⟨c, fv, rfl, ea, l⟩ := dkK_h j hv e
    exact .inr ⟨c, fv, _, rfl, ea, dpK_of j l s1, s2, s3, s4, k.now j (.str _) g6⟩
open Classical in
noncomputable def vReprX (x : D) : Option D := if Shows x then some (.str (py x).shown) else match x with
  | .dK kvs => if ShowsK kvs then some (.str (pyK kvs).shown) else none
  | _ => none
theorem pv_reprX (hr : Room k X.A) (hgu : X.A.guards = some []) (hm : X.mg "repr" = none) (hv : bootBuiltins "repr" = some (.builtin "repr")) (ha : PD X G a (dV Y fa)) (hg : Gl X "repr" := by rfl) (hs : starEach [a] X.env = (false, eval a X.env) :: starEach [] X.env := by rfl) :
    PD X G (.Call (.Name "repr" p) [a] [] pos) (dV Y (vUn vReprX fa)) := (pd_reprX hr hgu hm hv ha hg hs).mono fun _ _ _ h => dV_b1V (fun {x d μ Q} e q => by
  unfold vReprX at e
  split at e
  · rename_i c
    cases e
    exact ⟨x, rfl, .inl (by rw [vw_pur c.1]; exact ⟨c, q⟩)⟩
  · split at e
    · split at e
      · rename_i c
        cases e
        exact ⟨_, rfl, .inr ⟨_, .inr rfl, c, q⟩⟩
      · cases e
    · cases e) h
end
end Dl

/-! dicts with int and text keys: {k: v for ..}, dict(pairs), len, sorted; x in o; o.f += e -/
namespace Dl
open PySem PySem.Spec PyProof.Rows L2
/-! ### {k: v for ..} -/
def SK : TStore := fun D y z H N => ∃ fv k, y = kV k ∧ H D = some (.dK fv) ∧ fv.length < sizeLine ∧ N (upd H D (.dK (putK fv k z)))
section
variable {X : Cx} {G : Gh} {pos : Pos} {k : Nat}
theorem sk_ok : StoreOk X SK := by
  rintro Y eP eW eK eA pins s σ H D y z u r N Q E I ry rz ⟨fv, n, rfl, e2, hz, nx⟩ fin
  obtain ⟨z1, hd, vs, rel, dd⟩ := dk_of I.hok e2
  have hzv : vs.length ≤ sizeLine := by rw [← rel.length]; exact z1
  have hl : (putK fv n z).length ≤ sizeLine := by have := length_putK fv n z; omega
  refine wpAny_dictSet_pairs (hsz := hzv) (kV_is ry) dd fun h' dd' hs => ?_
  refine fin _ _ ?_ nx
  have he : ∃ q, h'.get? D = some q := let ⟨q, _, _, hq, _⟩ := dd'; ⟨q, hq⟩
  exact d_write I (by rw [e2]; exact True.intro) hs he (dk_new hl hd (rel.put n rz) dd')
def dKDc (ti : DI) (g : DG) (tt : DT) (tk tv : DE) (vs : List Nat) : DE := fun ρ μ Q => ti ρ μ fun xs src μ1 => ∀ E, μ1 E = none → ∃ Pv : Nat → List (Key × D) → Mu → Prop, Pv 0 [] (mup μ1 E .hid) ∧ (∀ i acc μ, Pv i acc μ → src μ) ∧
  (∀ i x acc μ, xs[i]? = some x → Pv i acc μ → g x (wipeD ρ vs) μ fun ρ2 μ2 => tt ρ2 μ2 fun b μ3 => if b = true then tk ρ2 μ3 fun y μ4 => tv ρ2 μ4 fun z μ5 => ∃ n, keyD y = some n ∧ acc.length < sizeLine ∧ Pv (i + 1) (setD acc n z) μ5 else Pv (i + 1) acc μ3) ∧
  ∀ acc μ, Pv xs.length acc μ → Q (.ref E) (mup μ E (.dK acc))
theorem dk_read {K : PySem.W.Frag} {own : List (Str × Nat)} {ti : DI} {wi : TI} {g : DG} {tt : DT} {tk tv : DE}
    (fi : ∀ {σ : L2.St} {H : Hp} {ρ : Ro} {μ : Mu} {R : It → Hp → Prop} {Rd : List D → (Mu → Prop) → Mu → Prop}, Okd K G μ H σ ρ → ti ρ μ Rd → (∀ It xs src H' μ', Gr μ H μ' H' → J K μ' H' → ItD K It xs src μ' H' → Rd xs src μ' → R It H') → wi σ H R)
    {σ : L2.St} {H : Hp} {ρ : Ro} {μ : Mu} {Q : VK} {Qd : DQ} (o : Okd K G μ H σ ρ) (t : dKDc ti g tt tk tv (own.map (·.2)) ρ μ Qd) (kt : Kt K μ H Q Qd) :
    tDcG (fun _ => .dK []) SK wi (canG K G (own.map (·.2)) g) (canT K G tt) (canE K G tk) (canE K G tv) (own.map (·.2)) σ H Q := by
  refine fi o t fun It xs src H1 μ1 g1 j1 I t1 E nE => ?_
  obtain ⟨Pv, p0, psrc, step, pe⟩ := t1 E (j1.free nE)
  have o1 := (o.grow g1 j1).wipe (own.map (·.2))
  have gb : Gr μ1 H1 (mup μ1 E .hid) (upd H1 E (.dK [])) := Gr.born nE
  have jb : J K (mup μ1 E .hid) (upd H1 E (.dK [])) := j1.born nE (by show upd H1 E _ E ≠ none; rw [upd_same]; simp)
  refine ⟨fun i m H2 => m = xs.length - i ∧ i ≤ xs.length ∧ ∃ av acc μ2, H2 E = some (.dK av) ∧ μ2 E = some .hid ∧ DaK K μ2 H2 av acc ∧ Gr μ1 H1 μ2 H2 ∧ Okd K G μ2 H2 (L2.wipe σ (own.map (·.2))) (wipeD ρ (own.map (·.2))) ∧ Pv i acc μ2,
    ⟨_, rfl, Nat.zero_le _, [], [], _, upd_same, mup_same, .nil, gb, o1.grow gb jb, p0⟩, ?_⟩
  rintro i m H2 ⟨rfl, hi, av, acc, μ2, e1, e2, l2, g2, o2, p2⟩
  by_cases hl : i < xs.length
  · obtain ⟨go, yl⟩ := I.step i μ2 H2 hl g2 o2.j (psrc _ _ _ p2)
    refine .inr ⟨go, fun H' => ∃ av acc μ2, H' E = some (.dK av) ∧ μ2 E = some .hid ∧ DaK K μ2 H' av acc ∧ Gr μ1 H1 μ2 H' ∧ Okd K G μ2 H' (L2.wipe σ (own.map (·.2))) (wipeD ρ (own.map (·.2))) ∧ Pv (i + 1) acc μ2, fun H' h => ⟨xs.length - (i + 1), by omega, rfl, hl, h⟩, fun x H' y => ?_⟩
    obtain ⟨d, ed, g3, j3, h3⟩ := yl x H' y
    have o3 := o2.grow g3 j3
    have b3 := g3.hid E _ e2 e1
    refine ⟨d, _, μ2, _, o3, h3, step i d acc μ2 ed p2, fun σ4 H4 ρ4 μ4 g4 o4 w4 q4 => ?_⟩
    have b4 := g4.hid E _ b3.1 b3.2
    refine ⟨?_, ρ4, μ4, _, o4, q4, fun b H5 μ5 g5 j5 q5 => ?_⟩
    · rw [w4]
      exact wipe_idem _ _
    have b5 := g5.hid E _ b4.1 b4.2
    have o5 := (o3.grow g4 o4.j).grow g5 j5
    have gall : Gr μ1 H1 μ5 H5 := ((g2.trans g3).trans g4).trans g5
    have l5 := ((l2.grow g3).grow g4).grow g5
    cases b with
    | false => exact iteF ⟨av, acc, μ5, b5.2, b5.1, l5, gall, o5, by simpa using q5⟩
    | true =>
      refine iteT ⟨ρ4, μ5, _, o4.grow g5 j5, by simpa using q5, fun vk dk H6 μ6 g6 j6 h6 q6 => ?_⟩
      refine ⟨ρ4, μ6, _, (o4.grow g5 j5).grow g6 j6, q6, fun vz dz H7 μ7 g7 j7 h7 q7 => ?_⟩
      obtain ⟨n, ek, hz, pn⟩ := q7
      have b7 := g7.hid E _ (g6.hid E _ b5.1 b5.2).1 (g6.hid E _ b5.1 b5.2).2
      have l7 := (l5.grow g6).grow g7
      have n7 : μ7 E ≠ none := by rw [b7.1]; simp
      obtain rfl := h6.key ek
      have g8 := (gall.trans g6).trans g7
      exact ⟨av, n, rfl, b7.2, by rw [l7.length]; exact hz, ⟨_, _, μ7, upd_same, b7.1, (l7.put h7).over n7, g8.over nE, ((o5.grow g6 j6).grow g7 j7).over b7.1 (G.go o1.g (g8.over nE)), pn⟩⟩
  · have e : i = xs.length := by omega
    subst e
    refine .inl ⟨I.fin μ2 H2 g2 o2.j (psrc _ _ _ p2), ?_⟩
    have g3 : Gr μ1 H1 (mup μ2 E (.dK acc)) H2 := by
      refine ⟨g2.keep, fun b h1 h2 => ?_, fun b u hb hu => ?_⟩
      · by_cases z : b = E
        · rw [z]; exact nE
        · rw [mup_ne z] at h2; exact g2.new b h1 h2
      · rw [mup_ne (ne_of_none hu nE)]
        exact g2.hid b u hb hu
    have j3 : J K (mup μ2 E (.dK acc)) H2 := by
      have q := o2.j.show (p := E) (o := .dK av) (u := .dK acc) e2 ⟨av, upd_same, (l2.over (by rw [e2]; simp)).re (show_none e2)⟩
      have e : upd H2 E (.dK av) = H2 := by
        funext b
        unfold upd
        split
        · rename_i z; rw [z, e1]
        · rfl
      rw [e] at q
      exact q
    exact kt _ _ _ _ (g1.trans g3) j3 (.ref E) (pe _ _ p2)
theorem pd_kdc {kx vx tg iter : Expr} {ifs : List Expr} {scope : Scope} (own : List (Str × Nat)) {ti : DI} {g : DG} {tt : DT} {tk tv : DE} (hc : X.calm = true) (hN : X.N.Nodup) (hi : PDI X G tg iter ti) (ok : BlkOk X.N X.env.scope scope own)
    (hg : ∀ (s : Shared) (H : Hp) (C : Addr) (cl : List (Str × Addr)) (fp : List Addr), PCG (X.blk s H scope (compEnvC scope cl C X.env) fp) G (own.map (·.2)) tg g) (ht : ∀ (s : Shared) (H : Hp) (C : Addr) (cl : List (Str × Addr)) (fp : List Addr), PDTs (X.blk s H scope (compEnvC scope cl C X.env) fp) G ifs tt)
    (hk : ∀ (s : Shared) (H : Hp) (C : Addr) (cl : List (Str × Addr)) (fp : List Addr), PD (X.blk s H scope (compEnvC scope cl C X.env) fp) G kx tk) (he : ∀ (s : Shared) (H : Hp) (C : Addr) (cl : List (Str × Addr)) (fp : List Addr), PD (X.blk s H scope (compEnvC scope cl C X.env) fp) G vx tv) (hs : ∀ x, foldedSetIterable iter X.env x = pure x := by intro _; rfl) :
    PD X G (.DictComp kx vx [⟨tg, iter, ifs, 0⟩] scope pos) (dKDc ti g tt tk tv (own.map (·.2))) := by
  obtain ⟨wi, pi, fi⟩ := hi.ex
  have hU : ∀ (H : Hp) (h : Heap), sysModules < h.objs.size → ObjOk X.prog X.w H (h.push { cls := .type "dict", data := .dict #[] }) h.objs.size ((fun _ => HO.dK []) h.objs.size) := fun H h big => dk_empty h big
  exact ⟨_, pe_dcg (g := canG X.K G (own.map (·.2)) g) (tt := canT X.K G tt) (tk := canE X.K G tk) (tv := canE X.K G tv) hU sk_ok hc hN pi ok (fun s H C cl fp => (hg s H C cl fp).ok) (fun s H C cl fp => (ht s H C cl fp).ok) (fun s H C cl fp => (hk s H C cl fp).can) (fun s H C cl fp => (he s H C cl fp).can) hs,
    @fun σ H ρ μ Q Qd o t kt => dk_read fi o t kt⟩
end
/-! ### dict(pairs) -/
def kD : Key → D
  | .inl i => .int i
  | .inr x => .str x
def pairK (kv : Key × D) : D := .tup [kD kv.1, kv.2]
section
variable {X : Cx} {G : Gh} {a b e o value : Expr} {ta tb te to tv : DE} {pos pos' p : Pos} {k j : Nat} {C : Addr} {f : Str} {spd : SpD}
theorem Da.kD {K : PySem.W.Frag} {μ : Mu} {H : Hp} {n : Key} {v : V} (h : Da K μ H v (kD n)) : v = kV n := by
  cases n <;> cases h <;> rfl
theorem DaL.kpairs {K : PySem.W.Frag} {μ : Mu} {H : Hp} (jj : J K μ H) : ∀ {kvs : List (Key × D)} {vs : List V}, DaL K μ H vs (kvs.map pairK) →
    ∃ (ps : List Addr) (fv : List (Key × V)), vs = ps.map V.ref ∧ Paired (fun p kv => SqT K H p [kV kv.1, kv.2]) ps fv ∧ DaK K μ H fv kvs
  | [], _, h => by
    cases h
    exact ⟨[], [], rfl, .nil, .nil⟩
  | kv :: kvs, _, h => by
    cases h with
    | cons h l =>
      obtain ⟨ps, fv, rfl, h2, h3⟩ := l.kpairs jj
      obtain ⟨a, vs, rfl, sq, l2⟩ := h.nowT jj (xs := [kD kv.1, kv.2]) rfl
      obtain ⟨v1, v2, rfl, d1, d2⟩ := l2.two'
      obtain rfl := d1.kD
      exact ⟨a :: ps, (kv.1, v2) :: fv, rfl, .cons sq h2, .cons d2 h3⟩
def gDictK : List D → Mu → DQ → Prop := fun ds μ Q => ∃ x kvs, ds = [x] ∧ vw μ x = .lst (kvs.map pairK) ∧ ∀ p, μ p = none → Q (.ref p) (mup μ p (.dK (mergeD [] kvs)))
theorem pd_dictK (hc : X.calm = true) (hm : X.mg "dict" = none) (ha : PD X G a ta) (hg : Gl X "dict" := by rfl) (hs : starEach [a] X.env = (false, eval a X.env) :: starEach [] X.env := by rfl) : PD X G (.Call (.Name "dict" p) [a] [] pos) (dCB gDictK (dCons ta dNil)) := by
  refine pd_ty (L2.call_dictP hc) (@fun xs ds H μ Q Qd jj h g kt => ?_) hm PyProof.Rows.boot_dict (pda_cons ha pda_nil hs) hg (by decide) (by decide) hs
  obtain ⟨d, kvs, rfl, e, q⟩ := g
  obtain ⟨v, rfl, hv⟩ := h.one
  obtain ⟨aa, vs, rfl, e2, l⟩ := hv.nowL jj e
  obtain ⟨ps, fv, rfl, h2, h3⟩ := l.kpairs jj
  refine ⟨aa, ps, fv, rfl, SqL.of e2, h2, fun p np => ?_⟩
  have gb : Gr μ H (mup μ p (.dK (mergeD [] kvs))) (upd H p (.dK (mergeK [] fv))) := Gr.born np
  have lm : DaK X.K μ H (mergeK [] fv) (mergeD [] kvs) := h3.merge .nil
  exact kt _ _ _ _ gb (jj.born np ⟨_, upd_same, lm.grow gb⟩) (.ref p) (q p (jj.free np))
/-! ### len(d), sorted(d) -/
theorem da_lst' {K : PySem.W.Frag} {μ : Mu} {H : Hp} {p : Addr} (j : J K μ H) (np : H p = none) {ws : List V} {ds : List D} (l : DaL K μ H ws ds) : True := trivial
def gLenK : List D → Mu → DQ → Prop := fun ds μ Q => ∃ x kvs, ds = [x] ∧ dkK μ x kvs ∧ Q (.int kvs.length) μ
theorem call_lenK : CallR X (.builtin "len") (rGL X.K gLenK) := by
  rintro pins s σ H xs us Q I r ⟨ds, μ, Qd, jj, l, ⟨x, kvs, rfl, e, q⟩, kt⟩
  obtain ⟨v, rfl, hv⟩ := l.one
  obtain ⟨u, rfl, rx⟩ := vals1 r
  obtain ⟨c, fv, rfl, ea, l2⟩ := dkK_h jj hv e
  obtain rfl : u = Value.ref c := rx
  obtain ⟨z, lo, vs, rel, dd⟩ := dk_of I.hok ea
  have en : vs.length = kvs.length := by rw [← rel.length, l2.length]
  refine call_len_dict lo dd (by rw [en, ← l2.length]; have := sizeLine_eq; omega) ⟨.int kvs.length, H, I.tok _, ⟨_, by rw [en]⟩, kt.now jj (.int _) q⟩
end
end Dl

/-! sorted(d), sorted(set(d)) of a dict with int keys; x in o; o.f += e -/
namespace Dl
open PySem PySem.Spec PyProof.Rows L2
theorem DaK.keys' {K : PySem.W.Frag} {μ : Mu} {H : Hp} : ∀ {fv : List (Key × V)} {kvs : List (Key × D)}, DaK K μ H fv kvs → fv.map (·.1) = kvs.map (·.1)
  | _, _, .nil => rfl
  | _, _, .cons _ l => by rw [List.map_cons, List.map_cons, l.keys']
theorem daL_ints {K : PySem.W.Frag} {μ : Mu} {H : Hp} : ∀ (ns : List Int), DaL K μ H (ns.map V.int) (ns.map D.int)
  | [] => .nil
  | n :: ns => .cons (.int n) (daL_ints ns)
section
variable {X : Cx} {G : Gh} {a b e o value : Expr} {ta tb te to tv : DE} {pos pos' p p2 q : Pos} {k j : Nat} {C : Addr} {f : Str} {spd : SpD}
def gSortedDI : List D → Mu → DQ → Prop := fun ds μ Q => ∃ x kvs, ∃ ks : List Int, ds = [x] ∧ dkK μ x kvs ∧ kvs.map (·.1) = ks.map Sum.inl ∧ ks.length < 64 ∧ ∀ ys : List Int, ys.Perm ks → ys.Pairwise (· ≤ ·) → Q (.lst (ys.map .int)) μ
theorem pd_sortedDI (hc : X.calm = true) (hm : X.mg "sorted" = none) (ha : PD X G a ta) (hg : Gl X "sorted" := by rfl) (hs : starEach [a] X.env = (false, eval a X.env) :: starEach [] X.env := by rfl) : PD X G (.Call (.Name "sorted" p) [a] [] pos) (dCB gSortedDI (dCons ta dNil)) := by
  refine pd_b (call_sortedDI hc) (@fun xs ds H μ Q Qd jj h g kt => ?_) hm (by first | exact boot_sorted | exact PySem.boot_sorted | kernel_rfl | rfl) (pda_cons ha pda_nil hs) hg (by decide) (by decide) hs
  obtain ⟨d, kvs, ks, rfl, e, ek, h64, q⟩ := g
  obtain ⟨v, rfl, hv⟩ := h.one
  obtain ⟨c, fv, rfl, ea, l⟩ := dkK_h jj hv e
  exact ⟨c, fv, ks, rfl, .inl ea, l.keys'.trans ek, h64, fun ys p pm pw np => kt.new jj np (da_lst jj np (daL_ints ys)) (q ys pm pw)⟩
end
end Dl
namespace Dl
open PySem PySem.Spec PyProof.Rows L2
/-! ### set(d), d with int keys -/
section
variable {P : Program} {w : World} {A : Around} {E : Value → Shared → Prop} {s : Shared}
def fobS (w : World) : Obj := { cls := .type "set", dict := none, data := .set #[] 0 (.fresh 0 0 (!w.params.followText "set-order")) }
theorem lay_nil (m : Nat) : SetTable.layClean m #[] = some (Array.replicate (m + 1) none) := rfl
theorem laid_nil (m fi mv : Nat) (led pl : Bool) : SetTable.laid m fi mv led pl #[] = some ({ mask := m, place := #[], dummies := #[], finger := fi, led := led, moves := mv, plain := pl }, #[]) := by
  have e : ((List.range (m + 1)).filterMap fun j => ((Array.replicate (m + 1) (none : Option Nat)).getD j none).map (j, ·)) = [] := by
    rw [List.filterMap_eq_nil_iff]
    intro j _
    have : (Array.replicate (m + 1) (none : Option Nat)).getD j none = none := by
      rw [Array.getD_eq_getD_getElem?]
      by_cases h : j < m + 1
      · simp [h]
      · simp [h]
    rw [this]
    rfl
  unfold SetTable.laid
  rw [lay_nil]
  show some (_, _) = _
  rw [e]
  rfl
theorem room_ok {a : Addr} {n : Nat} {Q : Unit → Shared → Prop} (hn : n ≤ 1000) (ho : s.heap.get? a = some (fobS w))
    (h : ∀ h', Heap.SameBut a s.heap h' → SetR w h' a (fun _ => false) 0 → Q () { s with heap := h' }) : wpAny (model P w) A (setRoomFor a n) Q E s := by
  have led : w.params.followText "set-order" = true ∨ (!w.params.followText "set-order") = true := by cases w.params.followText "set-order" <;> simp
  unfold setRoomFor
  refine wpAny_bind (wpAny_setState_of ho rfl (by rfl) ?_)
  dsimp only
  by_cases hr : (0 + n) * 5 ≥ 7 * 3
  · have e : (SetTable.fresh 0 0 (!w.params.followText "set-order")).roomFor n = some ((0 + n) * 2) := if_pos hr
    rw [e]
    dsimp only
    rw [setRelay_eq]
    refine wpAny_bind (wpAny_setState_of ho rfl (by rfl) ?_)
    dsimp only
    have small : SetTable.sizeAbove ((0 + n) * 2) ≤ sizeLine := by
      have key : ∀ m : Nat, m ≤ 2000 → SetTable.sizeAbove m ≤ 16384 := by
        intro m hm
        unfold SetTable.sizeAbove
        have go : ∀ (f sz : Nat), sz ≤ 8192 → (∀ g z, SetTable.sizeAbove.go m g z = match g with | 0 => z | g + 1 => if z ≤ m then SetTable.sizeAbove.go m g (z * 2) else z) → SetTable.sizeAbove.go m f sz ≤ 16384 := by
          intro f
          induction f with
          | zero => intro sz h _; rw [SetTable.sizeAbove.go]; omega
          | succ f ih =>
            intro sz h hh
            rw [SetTable.sizeAbove.go]
            split
            · exact ih _ (by omega) hh
            · omega
        exact go 64 8 (by decide) (fun g z => by cases g <;> rw [SetTable.sizeAbove.go])
      have := key ((0 + n) * 2) (by omega)
      rw [sizeLine_eq]
      omega
    refine wp_if_neg (by omega) ?_
    try refine wpAny_bind (wpAny_pure ?_)
    unfold SetTable.relaid
    simp only [Array.map_empty, laid_nil]
    refine wpAny_bind ?_
    simp only [Array.filterMap_empty, List.size_toArray, List.length_nil]
    refine wp_if_neg (by simp) ?_
    try refine wpAny_bind (wpAny_pure ?_)
    refine wpAny_pure ?_
    dsimp only
    refine wpAny_storeSet_of ho rfl ?_ (by simp)
    refine h _ (Heap.SameBut.update ..) ⟨_, #[], _, _, store_at ho rfl, ⟨rfl, rfl, rfl⟩, rfl, (fun e he => by simp at he), (by simp), (fun k => by simp), (by decide), ?_, rfl, List.Pairwise.nil, led⟩
    simp [SetTable.fits, SetTable.fill]
  · have e : (SetTable.fresh 0 0 (!w.params.followText "set-order")).roomFor n = none := if_neg hr
    rw [e]
    dsimp only
    refine wpAny_pure (h s.heap (Heap.SameBut.refl a s.heap) ⟨_, #[], 0, _, ho, ⟨rfl, rfl, rfl⟩, rfl, (fun e he => by simp at he), (by simp), (fun k => by simp), (by decide), (by rfl), rfl, List.Pairwise.nil, led⟩)
end
end Dl

namespace Dl
open PySem PySem.Spec PyProof.Rows L2
section
variable {P : Program} {w : World} {A : Around} {E : Value → Shared → Prop} {s : Shared}
theorem sub_dict_set : isSubtype (.type "dict") (.type "set") = pure false := by rw [isSubtype_type]; kernel_rfl
theorem sub_dict_frozenset : isSubtype (.type "dict") (.type "frozenset") = pure false := by rw [isSubtype_type]; kernel_rfl
theorem pairs_at {K : Type} [DecidableEq K] {knd : PySem.KeyKind P w K} : ∀ {es : List DictEntry} {kvs : List (K × Value)}, Pairs knd es kvs → ∀ {i : Nat} {kv : K × Value}, kvs[i]? = some kv → ∃ e, es[i]? = some e ∧ knd.is kv.1 e.key = true
  | _, _, .nil, i, kv, h => by simp at h
  | _, _, .cons h1 h2 t, 0, kv, h => by
    simp only [List.getElem?_cons_zero, Option.some.injEq] at h
    subst h
    exact ⟨_, rfl, h1⟩
  | _, _, .cons h1 h2 t, i + 1, kv, h => by
    simp only [List.getElem?_cons_succ] at h ⊢
    exact pairs_at t h
theorem call_set_dictI {d : Addr} {vs : List (Key × Value)} (ks : List Int) {Q : Value → Shared → Prop} (lo : (d == sysModules) = false) (dd : s.heap.DictOf (mixKind P w) d vs) (hk : vs.map (·.1) = ks.map Sum.inl) (hn : ks.length ≤ 1000)
    (h : ∀ (h' : Heap), SetR w h' s.heap.objs.size (fun j => decide (j ∈ ks)) ks.length → (∀ b o, s.heap.get? b = some o → h'.get? b = some o) → Q (.ref s.heap.objs.size) { s with heap := h' }) :
    wpAny (model P w) A (call (.type "set") [.ref d]) Q E s := by
  obtain ⟨od, es, ep, ho, hex, hdt, hke, hpr, hnd⟩ := dd
  have hnew : (s.heap.push (fobS w)).get? s.heap.objs.size = some (fobS w) := Heap.get?_push_size _ rfl
  obtain ⟨c, tl, hmro⟩ := F.called_set.mro
  have f1 := F.called_set.made
  have f2 := F.called_set.sub
  refine wpAny_call (codeAny_of_tree ?_)
  show wpAny _ _ (callAny (.type "set") _) _ _ _
  refine wpAny_pure ⟨Code.quiet_builtin _ (by decide +kernel), codeAny_builtin F.entry_type_call ?_⟩
  rw [Around.under_plain (weight_type_call_type "set" [.ref d] []) rfl]
  have f3 := F.called_set.notType
  have f4 := F.called_set.canCreate
  have f5 := F.typeCall_set_1 (.ref d)
  repeat (any_goals (first | assumption | wp_step))
  refine codeAny_mono (code_set_led1 (.ref d) (E := E) (Q₁ := fun v z => v = .ref s.heap.objs.size ∧ z = { s with heap := s.heap.push (fobS w) }) ⟨rfl, rfl⟩) fun r z hz => ?_
  rcases r with e | fl
  · exact hz
  cases fl with
  | ret obj =>
    obtain ⟨rfl, rfl⟩ := hz
    have hT : Shared.TypeIs { s with heap := s.heap.push (fobS w) } (.ref s.heap.objs.size) "set" := ⟨_, hnew, rfl⟩
    have f6 := F.called_set.init.lookup
    have f7 := F.called_set.init.bind (.ref s.heap.objs.size)
    repeat (any_goals (first | assumption | wp_step))
    refine codeAny_mono (codeAny_call_builtin (R := wants (fun r z => r = .none ∧ ∃ h', z = { s with heap := h' } ∧ SetR w h' s.heap.objs.size (fun j => decide (j ∈ ks)) ks.length ∧
        (∀ b o, s.heap.get? b = some o → h'.get? b = some o)) E) F.called_set.init.plain F.entry_set_init (check_set_init_1 hT ?_)) fun r z hz => ?_
    · obtain ⟨c1, c2, c3, c4⟩ := od
      obtain ⟨x1, x2, x3⟩ := hex
      dsimp only at x1 x2 x3 hdt
      subst x1 x2 x3 hdt
      have ho' := Heap.get?_push_of_some (fobS w) ho
      have g1 := sub_dict_set
      have g2 := sub_dict_frozenset
      have g3 : (Value.type "dict" == Value.type "dict") = true := by decide
      unfold Builtin.«set.__init__» noKeywords Builtin.Frozenset.updateFrom
      generalize hPI : setRoomFor = PI
      wp_walk
      subst hPI
      have el : es.toList.length = ks.length := by
        have e1 := hpr.length
        have e2 := congrArg List.length hk
        rw [List.length_map, List.length_map] at e2
        omega
      have en : es.size = ks.length := by rw [← el, Array.length_toList]
      have ndk : ks.Nodup := by
        rw [hk] at hnd
        exact List.Pairwise.of_map _ (fun a b n e => n (by rw [e])) hnd
      have hlS : d < s.heap.objs.size := Heap.lt_size ho
      have ent : ∀ (i : Nat) (n : Int), ks[i]? = some n → ∃ e t, es[i]? = some e ∧ e.key = .int n t ∧ e.hash = (intKind P w).hash n := by
        intro i n hi
        have hv : (vs[i]?).map (·.1) = some (.inl n) := by
          rw [← List.getElem?_map, hk, List.getElem?_map, hi]; rfl
        obtain ⟨kv, hkv, ekv⟩ := Option.map_eq_some_iff.mp hv
        obtain ⟨e, he, his⟩ := pairs_at hpr hkv
        rw [Array.getElem?_toList] at he
        rw [ekv] at his
        obtain ⟨k', hk', hh⟩ := hke e (Array.mem_of_getElem? he)
        have := (mixKind P w).inj _ _ _ hk' his
        subst this
        rcases keyIs_shape (k := .inl n) (v := e.key) his with ⟨m, t, e1, e2⟩ | ⟨x, t, e1, e2⟩
        · cases e1
          exact ⟨e, t, he, e2, hh⟩
        · cases e1
      refine room_ok (w := w) (by omega) hnew fun h1 sb1 R0 => ?_
      have k1 : ∀ b o, s.heap.get? b = some o → h1.get? b = some o := fun b o e => (sb1.2 b (Nat.ne_of_lt (Heap.lt_size e))).trans (Heap.get?_push_of_some _ e)
      refine wpAny_bind (wpAny_dictEntries (k1 _ _ ho) rfl ?_)
      refine wpAny_bind (TI.forIn_rng (n := es.size) _ (fun rest _ z => ∃ i h', rest = List.range' i (es.size - i) ∧ i ≤ es.size ∧ z = { s with heap := h' } ∧ SetR w h' s.heap.objs.size (fun j => decide (j ∈ ks.take i)) i ∧ (∀ b o, s.heap.get? b = some o → h'.get? b = some o)) _ ?_ ?_ _
        ⟨0, h1, by rw [Nat.sub_zero], Nat.zero_le _, rfl, R0.congr fun j => by simp, k1⟩)
      · rintro x rest b z ⟨i, h', er, hi, rfl, R, kp⟩
        have hlt : i < es.size := by
          rcases Nat.lt_or_ge i es.size with q | q
          · exact q
          · rw [show es.size - i = 0 by omega] at er; simp at er
        obtain ⟨m, em⟩ : ∃ m, es.size - i = m + 1 := ⟨es.size - i - 1, by omega⟩
        rw [em, List.range'_succ] at er
        obtain ⟨rfl, rfl⟩ := List.cons.inj er
        obtain ⟨n, hkn⟩ : ∃ n, ks[x]? = some n := ⟨_, List.getElem?_eq_getElem (by omega)⟩
        obtain ⟨e, t, h2, h3, h4⟩ := ent x n hkn
        refine wpAny_bind (wpAny_dictEntries (kp _ _ ho) rfl ?_)
        rw [h2]
        dsimp only
        rw [h3, h4]
        refine wpAny_bind (wpAny_holding (setR_add_hashed (s := { s with heap := h' }) R (by unfold scanBound; omega) fun h'' sb R2 => ?_))
        have kp2 : ∀ b o, s.heap.get? b = some o → h''.get? b = some o := fun b o e => (sb.2 b (Nat.ne_of_lt (Heap.lt_size e))).trans (kp b o e)
        refine wpAny_bind (wpAny_dictEpoch (kp2 _ _ ho) rfl ?_)
        rw [if_neg (by simp)]
        have nin : n ∉ ks.take x := by
          intro hm
          obtain ⟨q, hq⟩ := List.getElem?_of_mem hm
          rw [List.getElem?_take] at hq
          split at hq
          · rename_i lt
            have h5 := (List.getElem?_eq_some_iff.mp hq)
            have h6 := (List.getElem?_eq_some_iff.mp hkn)
            obtain ⟨l5, e5⟩ := h5
            obtain ⟨l6, e6⟩ := h6
            have := (List.getElem_inj (h₀ := l5) (h₁ := l6) ndk).mp (e5.trans e6.symm)
            omega
          · cases hq
        refine wpAny_pure ⟨x + 1, h'', by rw [show es.size - (x + 1) = m by omega], by omega, rfl, ?_, kp2⟩
        have R3 := R2.congr (S' := fun j => decide (j ∈ ks.take (x + 1))) fun j => by
          rw [List.take_succ, hkn, Bool.eq_iff_iff]
          simp only [Bool.or_eq_true, decide_eq_true_eq, List.mem_append, Option.toList, List.mem_singleton]
        rw [if_neg (by rw [decide_eq_false nin]; decide)] at R3
        exact R3
      · rintro b z ⟨i, h', er, hi, rfl, R, kp⟩
        have : i = es.size := by
          rcases Nat.lt_or_ge i es.size with q | q
          · obtain ⟨m, em⟩ : ∃ m, es.size - i = m + 1 := ⟨es.size - i - 1, by omega⟩
            rw [em, List.range'_succ] at er
            cases er
          · omega
        subst this
        rw [en, List.take_length] at R
        refine wpAny_pure ?_
        show wpAny _ _ (ret Value.none) _ _ _
        exact wpAny_pure ⟨rfl, h', rfl, R, kp⟩
    · rcases r with e | fl
      · exact hz
      cases fl with
      | ret obj =>
        obtain ⟨rfl, h', rfl, hS', hk'⟩ := hz
        repeat (any_goals (first | assumption | wp_step))
        exact h _ hS' hk'
      | _ => exact hz.elim
  | _ => exact hz.elim
end
end Dl

/-! sorted(set(d)); x in o; o.f += e: the rules -/
namespace Dl
open PySem PySem.Spec PyProof.Rows L2
section
variable {X : Cx} {G : Gh} {a b e o value : Expr} {ta tb te to tv : DE} {pos pos' tpos p p2 q : Pos} {k j : Nat} {C : Addr} {f : Str} {spd : SpD}
def rSetD (w : World) : List V → Hp → VK → Prop := fun xs H Q => ∃ (a : Addr) (fv : List (Key × V)) (ks : List Int), xs = [.ref a] ∧ H a = some (.dK fv) ∧ fv.map (·.1) = ks.map Sum.inl ∧ ks.length < 64 ∧
  ∀ p, H p = none → Q (.ref p) (upd H p (SetO w p (fun j => decide (j ∈ ks)) ks.length))
theorem cr_setD : CallR X (.type "set") (rSetD X.w) := by
  rintro pins s σ H xs us Q I r ⟨a, fv, ks, rfl, ea, ek, h64, q⟩
  obtain ⟨u, rfl, rx⟩ := vals1 r
  obtain rfl : u = Value.ref a := rx
  obtain ⟨z, lo, vs, rel, dd⟩ := dk_of I.hok ea
  refine call_set_dictI (P := X.prog) (w := X.w) ks lo dd (rel.keys.symm.trans ek) (by omega) fun h' R kp => ?_
  exact ⟨.ref _, _, I.laid (t' := s.toks) (o := SetO X.w s.heap.objs.size (fun j => decide (j ∈ ks)) ks.length) kp (Nat.le_refl _) (setO_new R), rfl, q _ (I.hok.fresh (Nat.le_refl _))⟩
def gSortedSetD : List D → Mu → DQ → Prop := fun ds μ Q => ∃ x kvs, ∃ ks : List Int, ds = [x] ∧ dkK μ x kvs ∧ kvs.map (·.1) = ks.map Sum.inl ∧ ks.length < 64 ∧ ∀ ns : List Int, ns.Pairwise (· < ·) → (∀ k, k ∈ ns ↔ k ∈ ks) → Q (.lst (ns.map .int)) μ
theorem pd_sortedSetD (hc : X.calm = true) (hm : X.mg "sorted" = none) (hm2 : X.mg "set" = none) (ha : PD X G a ta) (hg : Gl X "sorted" := by rfl) (hg2 : Gl X "set" := by rfl) (hs : starEach [a] X.env = (false, eval a X.env) :: starEach [] X.env := by rfl)
    (hs2 : starEach [.Call (.Name "set" p2) [a] [] q] X.env = (false, eval (.Call (.Name "set" p2) [a] [] q) X.env) :: starEach [] X.env := by rfl) :
    PD X G (.Call (.Name "sorted" p) [.Call (.Name "set" p2) [a] [] q] [] pos) (dCB gSortedSetD (dCons ta dNil)) := by
  obtain ⟨ea, pa, fa⟩ := (pda_cons ha pda_nil hs).ex
  refine ⟨_, pe_callB (cr_sortedSet hc) hg hm (by first | exact boot_sorted | exact PySem.boot_sorted | kernel_rfl | rfl) (pa_cons (pe_callTy cr_setD hg2 hm2 PyProof.Rows.boot_set pa (by decide) (by decide) hs rfl) pa_nil hs2) (by decide) (by decide) hs2 rfl, @fun σ H ρ μ Q Qd oo t kt => ?_⟩
  refine fa oo t fun vs ds H1 μ1 g1 j1 l1 t1 => ?_
  obtain ⟨x, kvs, ks, rfl, ek, e2, h64, q⟩ := t1
  obtain ⟨v, rfl, hv⟩ := l1.one
  obtain ⟨c, fv, rfl, ea, l⟩ := dkK_h j1 hv ek
  refine ⟨c, fv, ks, rfl, ea, l.keys'.trans e2, h64, fun p np => ?_⟩
  refine ⟨p, _, _, rfl, upd_same, h64, fun ns p2 pw mm hl np2 => ?_⟩
  have gl : Gr μ1 H1 μ1 (upd H1 p (SetO X.w p (fun j => decide (j ∈ ks)) ks.length)) := Gr.laid np
  exact ((kt.after g1).after gl).new (j1.laid np) np2 (da_lst (j1.laid np) np2 (daL_ints ns)) (q ns pw fun k => by rw [mm k, decide_eq_true_eq])
/-! ### x in o -/
def gInO (C : Addr) (spd : SpD) (z : Bool) : G2 := fun y x μ Q => (∃ fs, oin μ x = some (C, fs)) ∧ spd [x, y] μ fun r μ' => ∃ b, r = .bl b ∧ Q (.bl (b == z)) μ'
theorem op_inO (Du : Dun X.prog X.w X.K X.mg X.base C "__contains__" k spd) (hr : Room k X.A) (hgu : X.A.guards = some []) : OpR X (compareOp .In) (rG X.K (gInO C spd true)) := by
  rintro pins s σ H y x w u Q I ry rx ⟨dy, dx, μ, Qd, jj, hy, hx, ⟨⟨fs, e1⟩, q⟩, kk⟩
  obtain ⟨f, fd, ps, h1, h2, F, hb⟩ := Du.ex
  obtain ⟨m, Fr⟩ := I.fr
  obtain ⟨ax, ox, od, rfl, Jx⟩ := inst_at I jj hx e1
  obtain rfl : u = Value.ref ax := rx
  refine PySem.W.in_K Fr I.ok.mod.kin Jx h1 h2 (dun_at F hb hgu hr I I.env0 (vs := [.ref ax, y]) (.cons rfl (.cons ry .nil)) jj (.cons hx (.cons hy .nil)) q ?_)
  rintro r s' ⟨v, H3, I3, ru, d, μ3, g3, j3, h3, z, rfl, q3⟩
  cases h3
  obtain rfl : r = Value.bool z := ru
  exact wpAny_truthy_bool ⟨.bl z, H3, I3, rfl, kk _ _ _ _ g3 j3 (.bl z) (by cases z <;> exact q3)⟩
theorem pd_inO (Du : Dun X.prog X.w X.K X.mg X.base C "__contains__" k spd) (hr : Room j X.A) (hgu : X.A.guards = some []) (ha : PD X G a ta) (hb : PD X G b tb) (hk : k ≤ j := by decide) (hm : behindInMarks .In b = false := by rfl) : PD X G (.Compare a [.In] [b] pos) (dOp (gInO C spd true) ta tb) :=
  pd_cmp (op_inO Du (hr.mono hk) hgu) lf_rG ha hb hm
theorem pt_inO (Du : Dun X.prog X.w X.K X.mg X.base C "__contains__" k spd) (hr : Room j X.A) (hgu : X.A.guards = some []) (ha : PD X G a ta) (hb : PD X G b tb) (hk : k ≤ j := by decide) (hm : behindInMarks .In b = false := by rfl) : PDT X G (.Compare a [.In] [b] pos) (dB (dOp (gInO C spd true) ta tb)) :=
  pt_c (op_inO Du (hr.mono hk) hgu) lf_rG ha hb hm
/-! ### o.f += e -/
def dFldAug (C : Addr) (f : Str) (to tv : DE) : DS := fun D ρ μ => to ρ μ fun x μ1 => ∃ a fs i, x = .ref a ∧ μ1 a = some (.ins C fs) ∧ fs.lookup f = some (.int i) ∧
  tv ρ μ1 fun y μ2 => ∃ n fs2, y = .int n ∧ μ2 a = some (.ins C fs2) ∧ fs2.length < 1000 ∧ D.nx ρ (mup μ2 a (.ins C (putD f (.int (i + n)) fs2)))
theorem ds_fldaug (c : Cls X.K C) (na : NoAttr X.K C f) (ho : PD X G o to) (hv : PD X G value tv) : PDS X G (.AugAssign (.Attribute o f tpos) .Add value pos) (dFldAug C f to tv) := by
  obtain ⟨eo, po, fo⟩ := ho.ex
  obtain ⟨ev, pv, fv⟩ := hv.ex
  refine ⟨_, ps_fldaug po pv in_add, @fun σ H ρ μ D Dd oo t kk => ?_⟩
  refine fo oo t fun x dx H1 μ1 g1 j1 h1 t1 => ?_
  obtain ⟨a, fs, i, rfl, e1, e2, t1⟩ := t1
  cases h1
  obtain ⟨dx, fw, ea, l⟩ := j1 a _ e1
  rcases l.look (f := f) with ⟨z, y', a1, a2, a3⟩ | ⟨_, a2⟩
  · rw [e2] at a2
    cases a2
    cases a3
    refine ⟨a, C, dx, fw, _, rfl, ea, c, na, a1, fv (oo.grow g1 j1) t1 fun y dy H2 μ2 g2 j2 h2 t2 => ?_⟩
    obtain ⟨n, fs2, rfl, e3, e4, q⟩ := t2
    cases h2
    obtain ⟨dx2, fw2, eb, l2⟩ := j2 a _ e3
    have gg : Gr μ2 H2 (mup μ2 a (.ins C (putD f (.int (i + n)) fs2))) (upd H2 a (.ins C dx2 (putF f (.int (i + n)) fw2))) := Gr.turn e3
    have jj := j2.turn (o := .ins C dx2 (putF f (.int (i + n)) fw2)) (u' := .ins C (putD f (.int (i + n)) fs2)) e3 ⟨_, _, upd_same, (DaF.put (.int (i + n)) l2).grow gg⟩
    exact ⟨i, n, rfl, rfl, dx2, fw2, eb, by rw [l2.length]; exact e4, kk.nx _ _ _ _ ((g1.trans g2).trans gg) (((oo.grow g1 j1).grow g2 j2).grow gg jj) q⟩
  · rw [e2] at a2; cases a2
end
end Dl
namespace Dl
open PySem PySem.Spec PyProof.Rows L2
section
variable {X : Cx} {G : Gh} {a : Expr} {ta : DE} {pos p : Pos}
theorem pd_lenK (hm : X.mg "len" = none) (ha : PD X G a ta) (hg : Gl X "len" := by rfl) (hs : starEach [a] X.env = (false, eval a X.env) :: starEach [] X.env := by rfl) : PD X G (.Call (.Name "len" p) [a] [] pos) (dCB gLenK (dCons ta dNil)) :=
  pd_b call_lenK lf_rGL hm PySem.boot_len (pda_cons ha pda_nil hs) hg (by decide) (by decide) hs rfl
end
end Dl

namespace Dl
open PySem PySem.Spec PyProof.Rows L2
theorem bind_star {fd : FuncData} {a b : Arg} (h1 : fd.params.posonlyargs = []) (h2 : fd.params.args = [a]) (h3 : fd.params.vararg = some b) (h4 : fd.params.kwonlyargs = []) (h5 : fd.params.kwarg = none) (hd : fd.defaults = .none) {v : Value} {us : List Value} (hl : us.length ≤ sizeLine)
    {M : Model} {A : Around} {E : Value → Shared → Prop} {s : Shared} {Q : List (Str × Value) → Shared → Prop}
    (h : Q [(a.arg, v), (b.arg, .ref s.heap.objs.size)] { s with heap := s.heap.push { cls := .type "tuple", data := .seq us.toArray } }) : wpAny M A (bindArgs fd ⟨v :: us, []⟩) Q E s := by
  unfold bindArgs
  simp only [h1, h2, h3, h4, h5, hd, List.map_nil, List.map_cons, List.nil_append, List.append_nil, List.zip_cons_cons, List.zip_nil_left]
  wp_walk
  simpa [List.filterMap, List.lookup] using h

section
variable {P : Program} {w : World} {K : PySem.W.Frag} {mg : Str → Option Value} {base : Heap} {A : Around} {s s' : Shared}
/-- a def entered behind a binding that made something -/
theorem call_fnV {R : Result → Shared → Prop} {name qual : Str} {params : Arguments} {body : List Stmt} {scope : Scope} {dV kV doc pm cdv ct oc : Value} {an od : Option Addr} {osl : Array (Option Value)} {f : Addr} {args : Args} {binds : List (Str × Value)}
    (X : K.In s.heap) (hlim : s'.heap.NoLimit) (ho : K.lookup f = some ⟨oc, od, .func (PySem.W.fnOf name qual params body scope dV kV doc pm an cdv ct), osl⟩) (hcd : PySem.W.codeIn K cdv qual = true) (hroom : A.depth < recursionLimit)
    (hbind : ∀ (M : Model) (A' : Around) (E' : Value → Shared → Prop) (Q' : List (Str × Value) → Shared → Prop), Q' binds s' → wpAny M A' (bindArgs (PySem.W.fnOf name qual params body scope dV kV doc pm an cdv ct) args) Q' E' s)
    (hkind : (binds.all fun y => scope.names.lookup y.1 == some .local || scope.names.lookup y.1 == some .cell) = true)
    (h : ∀ s₁, InCallC s' s'.heap.objs.size (bindL (envOfC qual scope s'.heap.objs.size f cdv).kindOf binds fun _ => none) (cellsFrom (s'.heap.objs.size + 1) scope.names [])
        (bindC (envOfC qual scope s'.heap.objs.size f cdv).kindOf binds fun _ => none) s₁ →
      wpAny (model P w) (A.deeper (envOfC qual scope s'.heap.objs.size f cdv)) (execs body (envOfC qual scope s'.heap.objs.size f cdv))
        (fun fl s' => R (.ok (.ret (match fl with | .ret v => v | _ => .none))) s')
        (fun e z => wpAny (model P w) (A.deeper (envOfC qual scope s'.heap.objs.size f cdv)) (leaving (envOfC qual scope s'.heap.objs.size f cdv) e) (fun _ s'' => R (.error e) s'') (fun e' s'' => R (.error e') s'') z) s₁)
    (hco : scope.isCoroutine = false) (hgen : scope.isGenerator = false) (hk : scope.kind = .function) : codeAny (model P w) A (.call (.ref f) args) R s := by
  refine codeAny_call_function hroom (X _ _ ho) rfl hco hgen rfl (PySem.W.codeRec_of X hcd) (hbind _ _ _ _ ?_)
  refine wpAny_newFunctionEnv_cells hk (PySem.W.kindsX hkind _) fun env he s₁ x => ?_
  subst he
  exact ⟨hlim.keeps x.toInCall.keep, codeAny_func (h s₁ x)⟩
/-- the promise of a def that takes *rest -/
structure FnV (P : Program) (w : World) (K : PySem.W.Frag) (mg : Str → Option Value) (base : Heap) (CXx : CXT) (k : Nat) (f : Addr) (fd : FuncData) (ps : List Str) (sp : Sp) : Prop where
  arity : ∀ {vs H Q E}, sp vs H Q E → vs.length = ps.length
  go : ∀ {A : Around} {outer : List Env} {s s' : Shared} {H : Hp} {args : Args} {us : List Value} {vs : List V} {Q : VK} {E : XK}, A.guards = some [] → Room k A → (∀ b o, base.get? b = some o → s.heap.get? b = some o) → Env0 P w K mg base A outer s' H →
    (∀ (M : Model) (A' : Around) (E' : Value → Shared → Prop) (Q' : List (Str × Value) → Shared → Prop), Q' (ps.zip us) s' → wpAny M A' (bindArgs fd args) Q' E' s) → Vals vs us → sp vs H Q E → codeAny (model P w) A (.call (.ref f) args) (CR CXx outer P w H s' Q E) s
variable {CXx : CXT} {k : Nat} {f : Addr} {fd : FuncData} {ps N : List Str} {sp : Sp} {x qual : Str} {st : Stmt}
theorem okGV (F : Fun K x qual st f fd) (S : FnScope N ps (defScope st)) (ar : ∀ {vs H Q E}, sp vs H Q E → vs.length = ps.length)
    (body : ∀ {cdv : Value} {A : Around} {outer : List Env} {s : Shared} {H : Hp} {vs : List V} {Q : VK} {E : XK}, A.guards = some [] → Room k (A.deeper (envOfC qual (defScope st) s.heap.objs.size f cdv)) → sp vs H Q E →
      ∃ t, PSs (cxOf CXx P w K mg base N qual (defScope st) f cdv A outer s H E) (defBody st) t ∧ t { nx := fun _ H' => Q .non H', rt := Q } (start N vs) H) (big : ∀ {A : Around} {outer : List Env} {s : Shared} {H : Hp}, Env0 P w K mg base A outer s H → K.In base) : FnV P w K mg base CXx (k + 1) f fd ps sp := by
  obtain ⟨oc, od, kV, doc, pm, an, cdv, ct, osl, rfl, lk, hcd⟩ := F.ex
  refine ⟨ar, @fun A outer s s' H args us vs Q E hg hr keep0 e0 hb hv h => ?_⟩
  have keep : ∀ b o, base.get? b = some o → s'.heap.get? b = some o := fun b o q => (e0.bs b o q).1
  obtain ⟨t, ht, hq⟩ := body (cdv := cdv) (outer := outer) (s := s') hg (hr.deeper _) h
  refine call_fnV ((big e0).keeps keep0) (e0.mod.nolimit.keeps keep) lk hcd hr.depth hb (kinds_ok S us) (fun s1 ic => ?_) S.co S.gen S.kind
  have I := inv_start (CX := CXx) (E := E) S hr.hd e0 (ar h) hv ic
  refine wpAny_mono (ht.run [] s1 _ H _ I hq) (fun fl s2 h2 => ?_) (fun e s2 h2 => h2)
  cases fl with
  | next => obtain ⟨σ2, H2, I2, q2⟩ := h2; exact ⟨V.non, H2, I2.os, I2.bare, I2.base, I2.hok, rfl, q2⟩
  | ret u => obtain ⟨v2, σ2, H2, I2, r2, q2⟩ := h2; exact ⟨v2, H2, I2.os, I2.bare, I2.base, I2.hok, r2, q2⟩
  | brk => obtain ⟨_, _, _, no⟩ := h2; exact no.elim
  | cont => obtain ⟨_, _, _, no⟩ := h2; exact no.elim
/-- a def that takes *rest and may raise, by its body -/
theorem okXV {spd : SpX} (F : Fun K x qual st f fd) (S : FnScope N ps (defScope st)) (ar : ∀ {ds μ Q Ed}, spd ds μ Q Ed → ds.length = ps.length)
    (body : ∀ (X : Cx) (G : Gh) (Ed : DXE), (∃ cdv A outer s H E, X = cxOf (CX P w) P w K mg base N qual (defScope st) f cdv A outer s H E) → X.A.guards = some [] → Room k X.A → Wx X G (fun C dd _ μ => Ed C dd μ) → PassesOwn (model X.prog X.w) X.A X.env X.xe →
      ∃ t, PDSs X G (defBody st) t ∧ ∀ {ds μ Q}, spd ds μ Q Ed → t { nx := fun _ μ => Q .non μ, rt := Q } (startD N ds) μ) :
    FnV P w K mg base (CX P w) (k + 1) f fd ps (upX K spd) := by
  refine okGV F S (@fun vs H Q E h => ?_) (@fun cdv A outer s H vs Q E hg hr h => ?_) (fun e0 => e0.mod.kin)
  · obtain ⟨ds, μ, Qd, Ed, j, l, q, _⟩ := h
    exact l.length.trans (ar q)
  · obtain ⟨ds, μ, Qd, Ed, j, l, q, kk, ke⟩ := h
    have tk : Takes (cxOf (CX P w) P w K mg base N qual (defScope st) f cdv A outer s H E) (fun cls d _ H' => E cls d H') := takes_of rfl rfl rfl rfl
    have wx : Wx (cxOf (CX P w) P w K mg base N qual (defScope st) f cdv A outer s H E) (ghost μ H) (fun C dd _ μ => Ed C dd μ) := ⟨tk.imp fun c d σ H' h => by
      obtain ⟨C, dd, ρ, μ', rfl, rfl, o, e⟩ := h
      exact ke C dd H' μ' o.g o.j e⟩
    obtain ⟨t, ht, hq⟩ := body _ (ghost μ H) Ed ⟨cdv, A, outer, s, H, E, rfl⟩ hg hr wx (passes_of rfl)
    obtain ⟨ts, p, fn⟩ := ht.ex
    exact ⟨ts, p, fn (start_ok j Gr.refl l) (hq q) ⟨fun σ' H' ρ' μ' g' o' q' => kk _ _ _ _ g' o'.j .non q', kk, fun _ _ _ _ _ _ z => z.elim, fun _ _ _ _ _ _ z => z.elim⟩⟩
end
/-- what is written of the parameters: self and *rest -/
structure StarP (p : Arguments) (a b : Str) : Prop where
  ex : ∃ x y : Arg, p.posonlyargs = [] ∧ p.args = [x] ∧ p.vararg = some y ∧ p.kwonlyargs = [] ∧ p.kwarg = none ∧ x.arg = a ∧ y.arg = b
/-- a method that takes *rest -/
structure MeV (P : Program) (w : World) (K : PySem.W.Frag) (mg : Str → Option Value) (base : Heap) (k : Nat) (C : Addr) (m : Str) (spd : SpX) : Prop where
  ex : ∃ f fd a b, Cls K C ∧ Meth K C m f ∧ FnV P w K mg base (CX P w) k f fd [a, b] (upX K spd) ∧ StarP fd.params a b ∧ fd.defaults = .none
def dMethV (Ed : DX) (C : Addr) (m : Str) (spd : SpX) (to : DE) (t : DA) : DE := fun ρ μ Q => to ρ μ fun x μ1 => (∃ fs, oin μ1 x = some (C, fs) ∧ fs.lookup m = none) ∧ t ρ μ1 fun ds μ2 => ds.length ≤ 1000 ∧ spd [x, .tup ds] μ2 Q fun C d μ' => Ed C d ρ μ'
section
variable {X : Cx} {G : Gh} {Ed : DX} {pos p apos : Pos} {o e : Expr} {es : List Expr} {tA : DA} {to : DE} {k j : Nat} {spd : SpX} {m : Str} {C : Addr}
theorem pd_mv {pl : Sem Bool} (wx : Wx X G Ed) (c : MeV X.prog X.w X.K X.mg X.base k C m spd) (hr : Room j X.A) (hgu : X.A.guards = some []) (ho : PD X G o to) (ha : PDA X G (e :: es) tA) (hk : k ≤ j := by decide)
    (ht : eval (.Call (.Attribute o m apos) (e :: es) [] pos) X.env = (do
      let ov ← eval o X.env
      standAt apos.atName
      let (f, first) ← holding [ov] (getMethod ov m pl)
      callWith pos f first (backTo pos (starEach (e :: es) X.env)) (backToKw pos (keywordEach [] X.env))) := by rfl)
    (he : starEach (e :: es) X.env = (false, eval e X.env) :: starEach es X.env := by rfl) (hpl : (backTo pos (starEach es X.env)).any (·.1) = false := by rfl) : PD X G (.Call (.Attribute o m apos) (e :: es) [] pos) (dMethV Ed C m spd to tA) := by
  obtain ⟨f, fd, sa, sb, c, me, F, ⟨xa, xb, p1, p2, p3, p4, p5, rfl, rfl⟩, hdf⟩ := c.ex
  refine .of fun pins s σ H ρ μ Q Qd I ok q kk => ?_
  refine PySem.W.methodCall_KW (pl := pl) (thn (ho.run I ok q) ?_) ht
  rintro u s1 ⟨v, H1, I1, ru, d, μ1, g1, j1, h1, ⟨fs, e1, e2⟩, q1⟩
  obtain ⟨a, dx, fv, rfl, ea, l⟩ := h1.ins j1 e1
  obtain rfl : u = Value.ref a := ru
  have hn : fv.lookup m = none := by
    rcases l.look (f := m) with ⟨_, _, _, b, _⟩ | ⟨b, _⟩
    · rw [e2] at b; cases b
    · exact b
  have ok1 := ok.grow g1 j1
  refine getmeth_ok I1 ea c me hn ?_
  obtain ⟨ta, pa, fa⟩ := ha.ex
  refine PySem.W.callWith_K (h₀ := X.base) I1.ok.mod.kin me.kp (thn (pa.run pos pins s1 σ H1 _ I1 (fa ok1 q1 ktKDL)) ?_) he hpl
  rintro us s2 ⟨vs, H2, I2, r2, ds, μ2, g2, j2, l2, hl, q2⟩
  refine ⟨I2.kIn, ?_⟩
  have ln : us.length = ds.length := by rw [← r2.length, l2.length]
  have np : H2 s2.heap.objs.size = none := I2.hok.fresh (Nat.le_refl _)
  have hz : vs.length ≤ sizeLine := by rw [r2.length, ln]; exact Nat.le_trans hl (by rw [sizeLine_eq]; decide)
  have I3 : Inv X pins σ (upd H2 s2.heap.objs.size (.frz { cls := .type "tuple", data := .seq us.toArray } (.tup vs))) { s2 with heap := s2.heap.push { cls := .type "tuple", data := .seq us.toArray } } :=
    laidT (t' := s2.toks) I2 (fun b o e => Heap.get?_push_of_some _ e) (Nat.le_refl _) hz r2 (Heap.get?_push_size _ rfl)
  have gl : Gr μ2 H2 μ2 (upd H2 s2.heap.objs.size (.frz { cls := .type "tuple", data := .seq us.toArray } (.tup vs))) := Gr.laid np
  have j3 := j2.laid (o := .frz { cls := .type "tuple", data := .seq us.toArray } (.tup vs)) np
  have ok3 := (ok1.grow g2 j2).grow gl j3
  have dt : Da X.K μ2 (upd H2 s2.heap.objs.size (.frz { cls := .type "tuple", data := .seq us.toArray } (.tup vs))) (.ref s2.heap.objs.size) (.tup ds) := da_tup ⟨rfl, rfl⟩ j2 np l2
  refine wpAny_call (codeAny_mono (F.go (E := eX X.K μ2 (upd H2 s2.heap.objs.size (.frz { cls := .type "tuple", data := .seq us.toArray } (.tup vs))) fun C dd μ' => Ed C dd ρ μ') (us := [.ref a, .ref s2.heap.objs.size]) (vs := [.ref a, .ref s2.heap.objs.size]) hgu (hr.mono hk) (fun b o q => (I2.env0.bs b o q).1) I3.env0
    (fun M A' E' Q' hq => bind_star p1 p2 p3 p4 p5 hdf (show us.length ≤ sizeLine by rw [ln]; exact Nat.le_trans hl (by rw [sizeLine_eq]; decide)) hq) (.cons rfl (.cons rfl .nil)) ⟨_, μ2, Qd, _, j3, .cons ((h1.grow g2).grow gl) (.cons dt .nil), q2, ktKD, kteX⟩) fun r s' hq => ?_)
  match r, hq with
  | .error e, hq => exact erX wx I3 ok3 hq
  | .ok (.ret u), hq =>
    obtain ⟨v, H4, I4, ru, d, μ4, g4, j4, h4, q4⟩ := I3.after hq
    exact ⟨v, H4, I4, ru, kk _ _ _ _ (((g1.trans g2).trans gl).trans g4) j4 h4 q4⟩
end
end Dl

/-! try .. except C as e, where the body raises C alone; an error's __init__ with one field, with two -/
namespace Dl
open PySem PySem.Spec PyProof.Rows L2
section
variable {X : Cx} {G : Gh} {Ed : DX} {x n : Str} {c : Value} {i : Nat} {body suite : List Stmt} {b₀ : Stmt} {np pos pos' : Pos} {tb : DX → DS} {C0 : Addr}
theorem pdss_no {sts : List Stmt} : PDSs X G sts (fun _ _ _ => False) := ⟨fun _ _ _ => False, ⟨fun _ _ _ _ _ _ h => h.elim⟩, fun _ h _ => h⟩
/-- try: body / except C0 as n: suite -/
def exm1 (C0 C : Addr) : Option Bool := if C = C0 then some true else none
def ts1 (C0 : Addr) (ts : Addr → Addr → DS) (a C dd : Addr) : DS := if C = C0 then ts a dd else fun _ _ _ => False
def dTry1 (C0 : Addr) (i : Nat) (tb : DX → DS) (ts : Addr → Addr → DS) (Ed : DX) : DS := dTryAs (exm1 C0) i tb (ts1 C0 ts) Ed
theorem try1_er {C0 dd : Addr} {ts : Addr → Addr → DS} {DD : DEnds} {R : Addr → Ro} {μ' : Mu} {E : Prop} (h : ∀ a, ts a dd DD (R a) μ') :
    ∃ b, exm1 C0 C0 = some b ∧ (b = true → ∀ a, ts1 C0 ts a C0 dd DD (R a) μ') ∧ (b = false → E) :=
  ⟨true, if_pos rfl, fun _ a => by unfold ts1; rw [if_pos rfl]; exact h a, fun z => by cases z⟩
theorem ds_try1 {ts : Addr → Addr → DS} (hs : X.stack = X.env :: X.outer) (hf : X.env.frame = some X.env.locals) (hN : X.N.Nodup) (wx : Wx X G Ed) (hc : Names X x (.ref C0)) (hx : PySem.W.exmOne X.K (.ref C0) (.ref C0) = some true)
    (hb : ∀ (G' : Gh) (Ed' : DX) (pn : List (Addr × Obj)) (xe : Value → Shared → Prop), Wx (X.tr pn xe) G' Ed' → PassesOwn (model X.prog X.w) X.A X.env xe → PDSs (X.tr pn xe) G' body (tb Ed'))
    (hsu : ∀ (a : Addr) (oe : Obj) (dd : Addr) (pn : List (Addr × Obj)), Zc (.ref C0) (some dd) oe → (∃ vs, oe.data = .fields vs) → PDSs (X.suite a ((a, oe) :: pn)) G (b₀ :: suite) (ts a dd))
    (hi : X.N[i]? = some n := by rfl) (hln : X.env.kindOf n = some .local := by rfl) :
    PDS X G (.Try body [.ExceptHandler (some (.Name x np)) (some n) (b₀ :: suite) pos'] [] [] pos) (dTry1 C0 i tb ts Ed) := by
  refine ds_tryAs (exm := exm1 C0) (ts := ts1 C0 ts) hs hf hN wx hc (fun C b h => ?_) hb (fun a oe C dd pn hz hf2 => ?_) hi hln
  · unfold exm1 at h
    split at h
    · rename_i z
      cases h
      rw [z]; exact hx
    · cases h
  · unfold ts1
    by_cases z : C = C0
    · subst z
      simp only [if_true]
      exact hsu a oe dd pn hz hf2
    · simp only [if_neg z]
      exact pdss_no
end
section
variable {a ed : Addr} {c : D} {z : Bool} {μ : Mu} {Q : DQ} {fs : List (Str × D)} {f : Str} {d : D}
theorem gIsE_r (h : μ ed = some (.xd fs)) : gIsE a ed c z [.ref a, c] μ Q = Q (.bl z) μ := propext ⟨fun x => x.2.2, fun q => ⟨rfl, ⟨fs, h⟩, q⟩⟩
theorem xf_r (h : μ ed = some (.xd fs)) (e : fs.lookup f = some d) : (D.ref a = .ref a ∧ ∃ fs d, μ ed = some (.xd fs) ∧ fs.lookup f = some d ∧ Q d μ) = Q d μ := propext ⟨fun ⟨_, fs', d', h1, h2, q⟩ => by
  rw [h] at h1
  cases h1
  rw [e] at h2
  cases h2
  exact q, fun q => ⟨rfl, fs, d, h, e, q⟩⟩
end
end Dl

namespace K21
open PySem PySem.Spec PyProof.Rows L2 Dl
def topS (i : Nat) : Stmt := PySem.Challenge.pw_ownwake_k21_live_tables.main.body.getD i (.Pass ⟨0, 0, 0, 0⟩)
abbrev s__law_deck : Stmt := topS 8
theorem sc__law_deck : FnScope ["_law_script", "_law_cells", "_law_mixed", "_law_cell"] ["_law_script"] (defScope s__law_deck) := ⟨rfl, rfl, rfl, by decide +kernel, rfl, by decide +kernel, by decide +kernel⟩
abbrev s__law_draw : Stmt := topS 9
theorem sc__law_draw : FnScope ["_law_deck_here", "_law_many", "_law_cell", "_law_mixed"] ["_law_deck_here", "_law_many"] (defScope s__law_draw) := ⟨rfl, rfl, rfl, by decide +kernel, rfl, by decide +kernel, by decide +kernel⟩
abbrev s__law_pick : Stmt := topS 10
theorem sc__law_pick : FnScope ["_law_deck_here", "_law_some"] ["_law_deck_here", "_law_some"] (defScope s__law_pick) := ⟨rfl, rfl, rfl, by decide +kernel, rfl, by decide +kernel, by decide +kernel⟩
abbrev s__law_values : Stmt := topS 11
theorem sc__law_values : FnScope ["_law_deck_here", "_law_many", "_law_great", "_law_k"] ["_law_deck_here", "_law_many"] (defScope s__law_values) := ⟨rfl, rfl, rfl, by decide +kernel, rfl, by decide +kernel, by decide +kernel⟩
abbrev s__law_rows : Stmt := topS 12
theorem sc__law_rows : FnScope ["_law_deck_here", "_law_many", "_law_found", "_law_place", "_law_k"] ["_law_deck_here", "_law_many"] (defScope s__law_rows) := ⟨rfl, rfl, rfl, by decide +kernel, rfl, by decide +kernel, by decide +kernel⟩
abbrev s__law_refused : Stmt := topS 13
theorem sc__law_refused : FnScope ["_law_table", "_law_place", "_law_fresh", "_law_found", "_law_told", "e", "_law_is_right"] ["_law_table", "_law_place", "_law_fresh"] (defScope s__law_refused) := ⟨rfl, rfl, rfl, by decide +kernel, rfl, by decide +kernel, by decide +kernel⟩
abbrev s__law_alike : Stmt := topS 14
theorem sc__law_alike : FnScope ["_law_table", "_law_model", "_law_known", "_law_due", "_law_place"] ["_law_table", "_law_model"] (defScope s__law_alike) := ⟨rfl, rfl, rfl, by decide +kernel, rfl, by decide +kernel, by decide +kernel⟩
abbrev s__law_put : Stmt := topS 15
theorem sc__law_put : FnScope ["_law_deck_here", "_law_table", "_law_model", "_law_fresh", "_law_due", "_law_place"] ["_law_deck_here", "_law_table", "_law_model"] (defScope s__law_put) := ⟨rfl, rfl, rfl, by decide +kernel, rfl, by decide +kernel, by decide +kernel⟩
abbrev s__law_deed : Stmt := topS 16
theorem sc__law_deed : FnScope ["_law_deck_here", "_law_table", "_law_model", "_law_way", "_law_known", "_law_place", "_law_fresh", "_law_told", "_law_due"] ["_law_deck_here", "_law_table", "_law_model"] (defScope s__law_deed) := ⟨rfl, rfl, rfl, by decide +kernel, rfl, by decide +kernel, by decide +kernel⟩
abbrev s_law : Stmt := topS 17
theorem sc_law : FnScope ["_law_script", "_law_deck_here", "_law_tables", "_law_turn", "_law_many", "_law_begun", "_law_after", "_law_kept", "_law_table", "_law_model", "_law_k", "_law_one", "_law_kept_model", "_law_empty"] ["_law_script"] (defScope s_law) := ⟨rfl, rfl, rfl, by decide +kernel, rfl, by decide +kernel, by decide +kernel⟩
abbrev s_NoRow___init__ : Stmt := inClass (topS 4) 0
theorem sc_NoRow___init__ : FnScope ["self", "name", "number"] ["self", "name", "number"] (defScope s_NoRow___init__) := ⟨rfl, rfl, rfl, by decide +kernel, rfl, by decide +kernel, by decide +kernel⟩
abbrev s_LiveTable___init__ : Stmt := inClass (topS 6) 0
theorem sc_LiveTable___init__ : FnScope ["self", "rows", "following", "number", "values"] ["self", "rows", "following"] (defScope s_LiveTable___init__) := ⟨rfl, rfl, rfl, by decide +kernel, rfl, by decide +kernel, by decide +kernel⟩
abbrev s_LiveTable_rows : Stmt := inClass (topS 6) 1
theorem sc_LiveTable_rows : FnScope ["self", "number"] ["self"] (defScope s_LiveTable_rows) := ⟨rfl, rfl, rfl, by decide +kernel, rfl, by decide +kernel, by decide +kernel⟩
abbrev s_LiveTable___len__ : Stmt := inClass (topS 6) 2
theorem sc_LiveTable___len__ : FnScope ["self"] ["self"] (defScope s_LiveTable___len__) := ⟨rfl, rfl, rfl, by decide +kernel, rfl, by decide +kernel, by decide +kernel⟩
abbrev s_LiveTable___contains__ : Stmt := inClass (topS 6) 3
theorem sc_LiveTable___contains__ : FnScope ["self", "number"] ["self", "number"] (defScope s_LiveTable___contains__) := ⟨rfl, rfl, rfl, by decide +kernel, rfl, by decide +kernel, by decide +kernel⟩
abbrev s_LiveTable_put : Stmt := inClass (topS 6) 4
theorem sc_LiveTable_put : FnScope ["self", "values", "number"] ["self", "values"] (defScope s_LiveTable_put) := ⟨rfl, rfl, rfl, by decide +kernel, rfl, by decide +kernel, by decide +kernel⟩
abbrev s_LiveTable_change : Stmt := inClass (topS 6) 5
theorem sc_LiveTable_change : FnScope ["self", "number", "values"] ["self", "number", "values"] (defScope s_LiveTable_change) := ⟨rfl, rfl, rfl, by decide +kernel, rfl, by decide +kernel, by decide +kernel⟩
abbrev s_LiveTable_drop : Stmt := inClass (topS 6) 6
theorem sc_LiveTable_drop : FnScope ["self", "number"] ["self", "number"] (defScope s_LiveTable_drop) := ⟨rfl, rfl, rfl, by decide +kernel, rfl, by decide +kernel, by decide +kernel⟩
structure Cs where
  LiveTable : Addr
  NoRow : Addr
  NoTable : Addr
  WakeError : Addr
structure Txt (mg : Str → Option Value) (K : PySem.W.Frag) (cz : Cs) : Prop where
  LiveTable : mg "LiveTable" = some (.ref cz.LiveTable)
  NoRow : mg "NoRow" = some (.ref cz.NoRow)
  NoTable : mg "NoTable" = some (.ref cz.NoTable)
  WakeError : mg "WakeError" = some (.ref cz.WakeError)
  ValueError : mg "ValueError" = none
  dict : mg "dict" = none
  isinstance : mg "isinstance" = none
  len : mg "len" = none
  list : mg "list" = none
  range : mg "range" = none
  repr : mg "repr" = none
  set : mg "set" = none
  sorted : mg "sorted" = none
  tuple : mg "tuple" = none
/-- what the written part says of the classes -/
structure Hc (K : PySem.W.Frag) (cz : Cs) : Prop where
  cl : Cls K cz.LiveTable
  na1 : NoAttr K cz.LiveTable "values_by_number"
  na2 : NoAttr K cz.LiveTable "next_number"
  nf1 : PySem.W.findIn K (.ref cz.NoRow) "name" = some none
  nf2 : PySem.W.findIn K (.ref cz.NoRow) "number" = some none
  xm : PySem.W.exmOne K (.ref cz.NoRow) (.ref cz.NoRow) = some true
  xf : XfC K cz.NoRow
  ex : ExcC K cz.NoRow
  k1 : PySem.W.kitOne K (.ref cz.NoRow) (.ref cz.WakeError) = some true
  k2 : PySem.W.kitOne K (.ref cz.NoRow) (.type "ValueError") = some true
  k3 : PySem.W.kitOne K (.ref cz.NoRow) (.ref cz.NoTable) = some false
theorem names_own {X : Cx} {x : Str} {C : Addr} (hm : X.mg x = some (.ref C)) (hg : Gl X x := by rfl) (hdb : (x == ("__debug__" : Str)) = false := by decide) : Names X x (.ref C) := ⟨hg, hdb, .inl hm⟩
def encR (r : Int × List Int) : D := .tup [.int r.1, .tup (r.2.map .int)]
def rk (r : Int × List Int) : Key × D := (.inl r.1, .tup (r.2.map .int))
abbrev Rows := List (Int × List Int)
def tfs (dd : Addr) (nx : Int) : List (Str × D) := [("values_by_number", .ref dd), ("next_number", .int nx)]
/-- a live table -/
structure Live (cz : Cs) (μ : Mu) (a dd : Addr) (rows : Rows) (nx : Int) : Prop where
  ha : μ a = some (.ins cz.LiveTable (tfs dd nx))
  hd : μ dd = some (.dK (rows.map rk))
  nd : (rows.map (·.1)).Nodup
  few : rows.length < 64
theorem v_v : (("values_by_number" : Str) == "values_by_number") = true := by decide +kernel
theorem n_v : (("next_number" : Str) == "values_by_number") = false := by decide +kernel
theorem n_n : (("next_number" : Str) == "next_number") = true := by decide +kernel
theorem vn : ¬ (("values_by_number" : Str) = "next_number") := by decide +kernel
theorem tfs_v {dd : Addr} {nx : Int} : List.lookup ("values_by_number" : Str) (tfs dd nx) = some (D.ref dd) := by simp only [tfs, List.lookup, v_v]
theorem tfs_n {dd : Addr} {nx : Int} : List.lookup ("next_number" : Str) (tfs dd nx) = some (D.int nx) := by simp only [tfs, List.lookup, n_v, n_n]
theorem tfs_s {dd : Addr} {nx m : Int} : putD "next_number" (.int m) (tfs dd nx) = tfs dd m := by
  unfold tfs
  rw [putD, if_neg vn, putD, if_pos rfl]
theorem tfs_0 {dd : Addr} {nx : Int} : putD "next_number" (.int nx) (putD "values_by_number" (.ref dd) []) = tfs dd nx := by
  unfold tfs
  rw [putD, putD, if_neg vn, putD]
section
variable {cz : Cs} {μ : Mu} {a dd : Addr} {rows : Rows} {nx n : Int} {Q : DQ}
theorem Live.ne (h : Live cz μ a dd rows nx) : a ≠ dd := fun e => by
  have h1 := h.ha
  have h2 := h.hd
  rw [e, h2] at h1
  cases h1
theorem live_v (h : Live cz μ a dd rows nx) (q : Q (.ref dd) μ) : gFld cz.LiveTable "values_by_number" (.ref a) μ Q :=
  ⟨tfs dd nx, _, by simp only [oin, h.ha], tfs_v, q⟩
theorem live_n (h : Live cz μ a dd rows nx) (q : Q (.int nx) μ) : gFld cz.LiveTable "next_number" (.ref a) μ Q :=
  ⟨tfs dd nx, _, by simp only [oin, h.ha], tfs_n, q⟩
theorem live_k (h : Live cz μ a dd rows nx) : dkK μ (.ref dd) (rows.map rk) := .inl ⟨dd, rfl, h.hd⟩
theorem val_rk : ∀ {rows : Rows} {n : Int}, valD (rows.map rk) (.inl n) = (lk rows n).map fun vs => .tup (vs.map .int)
  | [], n => rfl
  | (m, vs) :: rows, n => by
    have ih := val_rk (rows := rows) (n := n)
    unfold valD at ih ⊢
    rw [List.map_cons, List.find?_cons, lk]
    by_cases e : m = n
    · subst e
      simp [rk]
    · have : decide ((rk (m, vs)).1 = Sum.inl n) = false := decide_eq_false fun z => e (by cases z; rfl)
      rw [this, if_neg e]
      exact ih
theorem lk_in : (lk rows n).isSome = decide (n ∈ rows.map (·.1)) := by
  by_cases h : n ∈ rows.map (·.1)
  · obtain ⟨d, e⟩ := lk_some_of_mem h
    rw [e, decide_eq_true h]; rfl
  · rw [lk_none_iff.mpr h, decide_eq_false h]; rfl
theorem has_rk : (valD (rows.map rk) (.inl n)).isSome = decide (n ∈ rows.map (·.1)) := by
  rw [val_rk, Option.isSome_map, lk_in]
theorem any_rk : ((rows.map rk).any fun kv => decide (kv.1 = (.inl n : Key))) = decide (n ∈ rows.map (·.1)) := by
  rw [Bool.eq_iff_iff, List.any_eq_true, decide_eq_true_eq, List.mem_map]
  constructor
  · rintro ⟨kv, h, e⟩
    obtain ⟨r, hr, rfl⟩ := List.mem_map.mp h
    refine ⟨r, hr, ?_⟩
    have := of_decide_eq_true e
    simp only [rk] at this
    cases this
    rfl
  · rintro ⟨r, hr, rfl⟩
    exact ⟨rk r, List.mem_map_of_mem hr, decide_eq_true rfl⟩
def putR (n : Int) (vs : List Int) (rows : Rows) : Rows := rows.map fun r => if r.1 = n then (n, vs) else r
theorem set_new {vs : List Int} (h : n ∉ rows.map (·.1)) : setD (rows.map rk) (.inl n) (.tup (vs.map .int)) = (rows ++ [(n, vs)]).map rk := by
  unfold setD
  rw [any_rk, decide_eq_false h, if_neg (by decide), List.map_append]
  rfl
theorem set_old {vs : List Int} (h : n ∈ rows.map (·.1)) : setD (rows.map rk) (.inl n) (.tup (vs.map .int)) = (putR n vs rows).map rk := by
  unfold setD putR
  rw [any_rk, decide_eq_true h, if_pos rfl, List.map_map, List.map_map]
  refine List.map_congr_left fun r _ => ?_
  by_cases e : r.1 = n
  · have e2 : (rk r).1 = (.inl n : Key) := by rw [← e]; rfl
    show (if (rk r).1 = Sum.inl n then ((rk r).1, D.tup (vs.map .int)) else rk r) = rk (if r.1 = n then (n, vs) else r)
    rw [if_pos e, if_pos e2, e2]
    rfl
  · have e2 : ¬ (rk r).1 = (.inl n : Key) := fun z => e (by cases z; rfl)
    show (if (rk r).1 = Sum.inl n then ((rk r).1, D.tup (vs.map .int)) else rk r) = rk (if r.1 = n then (n, vs) else r)
    rw [if_neg e, if_neg e2]
theorem out_rk : outD (rows.map rk) (.inl n) = (rows.filter fun r => decide (r.1 ≠ n)).map rk := by
  unfold outD
  rw [List.filter_map]
  congr 1
  refine List.filter_congr fun r _ => ?_
  by_cases e : r.1 = n
  · have e2 : (rk r).1 = (.inl n : Key) := by rw [← e]; rfl
    show decide ((rk r).1 ≠ Sum.inl n) = decide (r.1 ≠ n)
    rw [decide_eq_false (fun z => z e2), decide_eq_false (fun z => z e)]
  · have e2 : ¬ (rk r).1 = (.inl n : Key) := fun z => e (by cases z; rfl)
    show decide ((rk r).1 ≠ Sum.inl n) = decide (r.1 ≠ n)
    rw [decide_eq_true e2, decide_eq_true e]
theorem keys_rk : (rows.map rk).map (·.1) = (rows.map (·.1)).map Sum.inl := by rw [List.map_map, List.map_map]; rfl
theorem merge_rk : ∀ {post pre : Rows}, ((pre ++ post).map (·.1)).Nodup → mergeD (pre.map rk) (post.map rk) = (pre ++ post).map rk
  | [], pre, _ => by rw [List.append_nil]; rfl
  | r :: post, pre, h => by
    have e : pre ++ r :: post = (pre ++ [r]) ++ post := by simp
    have nin : r.1 ∉ pre.map (·.1) := by
      rw [List.map_append, List.map_cons, List.nodup_append] at h
      exact fun z => h.2.2 _ z _ List.mem_cons_self rfl
    unfold mergeD
    rw [List.map_cons, List.foldl_cons]
    have := set_new (rows := pre) (n := r.1) (vs := r.2) nin
    show List.foldl _ (setD (pre.map rk) (.inl r.1) (.tup (r.2.map .int))) _ = _
    rw [this]
    rw [e] at h ⊢
    exact merge_rk h
theorem putR_keys {vs : List Int} : (putR n vs rows).map (·.1) = rows.map (·.1) := by
  unfold putR
  rw [List.map_map]
  refine List.map_congr_left fun r _ => ?_
  simp only [Function.comp]
  split
  · rename_i e; exact e.symm
  · rfl
end
end K21

namespace K21
open PySem PySem.Spec PyProof.Rows L2 Dl
local macro_rules | `(tactic| walk_at "dd") => `(tactic| try simp only [dSeq, dNext, dRet, dIf, dAsg, dPar, dName, dGTup, dGCons, dGNil, dOp, dVar, slot, dC, dB, dAndT, dOrT, dNotT, dIfE, dAnd, dOr, dTup, dLst, dCons, dNil, dCall, dCallK, dCB, dUn, dSl, dNo, dSome, startD, dM0,
  gEq_int, gNe_int, gEq_bl, gEq_str, gNe_str, gLt_int, gGt_int, gLe_int, gGe_int, gAdd_int, gSub_int, gMul_int, gMod_int, gDiv_int, gPow_int, gNeg_int, gNot_bl, gIs_bl, gIx_t0, gIx_t1, gIx_t2, gLen_l, gLen_t, gSl_l, gSl_sq, gSl_t, gRev_l, gRev_t, gRevM_l, gList_l, gList_sq, gList_t, gMax2_int, gRepr_l, gRepr_t,
  List.map, List.replicate, List.length, List.set, List.cons_append, List.nil_append, List.append, Nat.sub, Nat.reduceSub, Nat.reduceAdd, true_and, and_true, if_true, if_false, decide_true, decide_false, Bool.not_true, Bool.not_false, Bool.false_eq_true, reduceIte])
local macro_rules | `(tactic| walk_at "d0") => `(tactic| try simp only [startD, List.map, List.replicate, List.length, List.cons_append, List.nil_append, List.append, Nat.sub, Nat.reduceSub, Nat.reduceAdd])
local macro_rules | `(tactic| walk_at "dx") => `(tactic| try simp only [↓s_seq, ↓s_next, ↓s_brk, ↓s_cnt, ↓s_retN, ↓s_ret, ↓s_drop, ↓s_if, ↓s_asg, ↓s_par, ↓s_par2, ↓s_tup, ↓s_gnil, ↓s_gcons, ↓s_op, ↓s_c, ↓s_b, ↓s_bB, ↓s_andT, ↓s_orT, ↓s_notT, ↓s_ifE, ↓s_and, ↓s_or, ↓s_bAnd, ↓s_bOr, ↓s_etup, ↓s_lst, ↓s_nil, ↓s_cons, ↓s_call, ↓s_callB, ↓s_cb, ↓s_un, ↓s_m0, ↓s_len, ↓s_both, ↓s_fld, ↓s_setF, ↓s_make, ↓s_makeM, ↓s_meth, ↓s_prop, ↓s_orV, ↓s_sl, ↓s_no, ↓s_some, ↓s_bSome, ↓s_fmt, ↓s_fmtS, ↓s_fmtI, ↓s_join, ↓s_js0, ↓s_js1, ↓s_bJs, ↓s_sub, ↓s_yes, ↓p_nil, ↓v_0, ↓v_1, ↓v_2, ↓v_3, ↓v_4, ↓v_5, ↓v_6, ↓v_7, ↓v_8, ↓v_9, ↓v_10, ↓v_11, ↓v_12, ↓v_13, ↓v_14, ↓v_15, ↓v_16, ↓v_17, ↓n_0, ↓n_1, ↓n_2, ↓n_3, ↓n_4, ↓n_5, ↓n_6, ↓n_7, ↓n_8, ↓n_9, ↓n_10, ↓n_11, ↓n_12, ↓n_13, ↓n_14, ↓n_15, ↓n_16, ↓n_17, ↓p_0, ↓p_1, ↓p_2, ↓p_3, ↓p_4, ↓p_5, ↓p_6, ↓p_7, ↓ex_some, ↓ex_bl, ↓gEq_int, ↓gNe_int, ↓gEq_bl, ↓gNe_bl, ↓gEq_str, ↓gNe_str, ↓gLt_int, ↓gGt_int, ↓gLe_int, ↓gGe_int, ↓gAdd_int, ↓gAdd_str, ↓gAdd_t, ↓gAdd_l, ↓gEq_nil, ↓gNe_nil0, ↓gSub_int, ↓gMul_int, ↓gMod_int, ↓gDiv_int, ↓gPow_int, ↓gNeg_int, ↓gNot_bl, ↓gIs_bl, ↓gIx_t0, ↓gIx_t1, ↓gIx_t2, ↓gLen_l, ↓gLen_t, ↓gSl_l, ↓gSl_sq, ↓gSl_t, ↓gRev_l, ↓gRev_t, ↓gRevM_l, ↓gList_l, ↓gList_sq, ↓gList_t, ↓gMax2_int, ↓gRepr_l, ↓gRepr_t, ↓gAbs_int, ↓gDivA_int, ↓gMulW_int, ↓gStrI_int, ↓gBoolI_int, ↓gBoolI_bl, ↓gTuple_l, ↓gTuple_t, ↓gIsi_non, ↓gIsi_bl, ↓gIsi_int, ↓gIsi_str, ↓gIsi_lst, ↓gIsi_tup, ↓gIsi_obj, ↓gDun_obj, ↓gOne_obj, ↓isBl_bl, ↓isStr_str, ansB, ansO, List.length, List.cons_append, List.nil_append, List.append, Nat.reduceAdd, true_and, and_true, if_true, if_false, decide_true, decide_false, Bool.not_true, Bool.not_false, Bool.false_eq_true, reduceIte])

local macro_rules | `(tactic| walk_at "x") => `(tactic| (walk_at "dx"; repeat (simp only [↓s_nsub, ↓s_callX, ↓s_pure, ↓s_pureT, ↓s_rq, ↓s_rowA, ↓s_nnew, ↓s_bM, pick, Dl.nth, List.map_cons, List.map_nil, List.append_nil]; walk_at "dx")))

section
variable {P : Program} {w : World} {K : PySem.W.Frag} {mg : Str → Option Value} {base : Heap} {f : Addr} {fd : FuncData} {cz : Cs}
/-! ### NoRow.__init__ -/
theorem pv {X : Cx} {pos : Pos} (i : Nat) {x : Str} (hN : X.N[i]? = some x := by rfl) (hv : Vis X.env.scope x := by first | exact Or.inl rfl | exact Or.inr (Or.inl rfl) | exact Or.inr (Or.inr rfl)) (hd : (x == ("__debug__" : Str)) = false := by decide) (hcd : (x == ("__classdict__" : Str)) = false := by decide) : PE X (.Name x pos) (tVar i) := pe_var hN hv hd hcd
theorem ok_NoRow (T : Txt mg K cz) (hc : Hc K cz) (oe : OexC K cz.NoRow) (b : BaseE K cz.WakeError) (F : Fun K "__init__" "NoRow.__init__" s_NoRow___init__ f fd) : FnOk P w K mg base CX0 1 f fd ["self", "name", "number"] (sp2 K cz.NoRow "name" "number") := by
  refine F.ok sc_NoRow___init__ (fun vs H Q E ⟨_, _, _, e, _⟩ => by rw [e]; rfl) fun cdv A outer s H vs Q E hr h => ?_
  refine ⟨_, pss_cons (ps_expr (pe_binit b T.WakeError (pa_cons (pv 0) (pa_cons pe_str pa_nil)))) (pss_cons (ps_ost (pv 0) (pv 1)) (pss_one (ps_ost (pv 0) (pv 2)))), ?_⟩
  exact read2 h
/-! ### LiveTable -/
def sp_init (cz : Cs) : SpD := fun ds μ Q => ∃ (a : Addr) (rows : Rows) (nx : Int), ds = [.ref a, .tup (rows.map encR), .int nx] ∧ μ a = some (.ins cz.LiveTable []) ∧ (rows.map (·.1)).Nodup ∧ rows.length < 64 ∧
  ∀ μ' dd, μ dd = none → a ≠ dd → Live cz μ' a dd rows nx → (∀ b, b ≠ a → b ≠ dd → μ' b = μ b) → Q .non μ'
theorem ok_init {dvs : List V} (T : Txt mg K cz) (hc : Hc K cz) (F : FunD K "__init__" "LiveTable.__init__" (defArgs s_LiveTable___init__) (defBody s_LiveTable___init__) (defScope s_LiveTable___init__) dvs [] f fd) : FnG P w K mg base CX0 1 f fd ["self", "rows", "following"] (up K (sp_init cz)) := by
  obtain ⟨cl_LiveTable, na_LiveTable_values_by_number, na_LiveTable_next_number, nf1, nf2, xm, xf, ex, k1, k2, k3⟩ := hc
  refine okDD F sc_LiveTable___init__ (fun ⟨_, _, _, e, _⟩ => by rw [e]; rfl) ?_
  rintro X G ⟨cdv, A, outer, s, H, E, rfl⟩ hgu hr
  refine ⟨_, (ds_cons (ds_fld cl_LiveTable na_LiveTable_values_by_number (pd_var 0) (pd_kdc [("number", 3), ("values", 4)] rfl sc_LiveTable___init__.nd (di_row (pd_var 1)) (blkOk_by (by kernel_rfl)) (fun _ _ _ _ _ => (cg_tup rfl (cgs_cons (cg_name (i := 3) sc_LiveTable___init__.nd) (cgs_cons (cg_name (i := 4) sc_LiveTable___init__.nd) cgs_nil)))) (fun _ _ _ _ _ => pdts_nil) (fun _ _ _ _ _ => (pd_var 3)) (fun _ _ _ _ _ => (pd_var 4))))
      (ds_one (ds_fld cl_LiveTable na_LiveTable_next_number (pd_var 0) (pd_var 2)))), ?_⟩
  rintro ds μ Q ⟨a, rows, nx, rfl, ha, nd, few, q⟩
  walk_at "d0"
  walk_at "x"
  unfold dKDc dRowA
  walk_at "x"
  refine ⟨rows.map encR, rfl, fun E nE => ⟨fun i acc μ' => acc = (rows.take i).map rk ∧ ∀ b, b ≠ E → μ' b = μ b, ⟨rfl, fun b h => mup_ne h⟩, fun _ _ _ _ => rfl, ?_, ?_⟩⟩
  · rintro i x acc μ' hx ⟨rfl, oth⟩
    rw [List.getElem?_map] at hx
    obtain ⟨r, hr, rfl⟩ := Option.map_eq_some_iff.mp hx
    have et : rows.take (i + 1) = rows.take i ++ [r] := by rw [List.take_succ, hr]; rfl
    unfold encR
    walk_at "x"
    have nin : r.1 ∉ (rows.take i).map (·.1) := by
      have : (rows.take (i + 1)).map (·.1) = (rows.map (·.1)).take (i + 1) := List.map_take
      have nd2 : ((rows.take (i + 1)).map (·.1)).Nodup := by rw [this]; exact nd.sublist (List.take_sublist _ _)
      rw [et, List.map_append, List.nodup_append] at nd2
      exact fun z => nd2.2.2 _ z _ (by simp) rfl
    refine ⟨.inl r.1, rfl, ?_, ?_, oth⟩
    · rw [List.length_map]
      have := List.length_take_le i rows
      exact Nat.lt_of_lt_of_le (show _ < 64 by rw [List.length_take] at *; omega) (sz (by decide))
    · rw [et, set_new nin]
  · rintro acc μ' ⟨rfl, oth⟩
    have ne : a ≠ E := fun z => by rw [← z, ha] at nE; cases nE
    rw [List.length_map, List.take_length]
    refine ⟨a, [], rfl, by rw [mup_ne ne, oth a ne]; exact ha, by decide, ?_⟩
    refine ⟨a, _, rfl, mup_same, by simp [putD], ?_⟩
    rw [tfs_0]
    refine q _ E nE ne ⟨mup_same, ?_, nd, few⟩ fun b h1 h2 => ?_
    · rw [mup_ne ne.symm, mup_ne ne.symm, mup_same]
    · rw [mup_ne h1, mup_ne h1, mup_ne h2, oth b h2]
def sp_rows (cz : Cs) : SpD := fun ds μ Q => ∃ (a dd : Addr) (rows : Rows) (nx : Int), ds = [.ref a] ∧ Live cz μ a dd rows nx ∧
  ∀ μ' (ns : List Int), ns.Perm (rows.map (·.1)) → ns.Pairwise (· ≤ ·) → Ext μ μ' → Q (.tup (ns.map fun n => encR (n, (lk rows n).getD []))) μ'
theorem ok_rows (T : Txt mg K cz) (hc : Hc K cz) (F : Fun K "rows" "LiveTable.rows" s_LiveTable_rows f fd) : FnG P w K mg base CX0 1 f fd ["self"] (up K (sp_rows cz)) := by
  obtain ⟨cl_LiveTable, na_LiveTable_values_by_number, na_LiveTable_next_number, nf1, nf2, xm, xf, ex, k1, k2, k3⟩ := hc
  refine okD F sc_LiveTable_rows (fun ⟨_, _, _, _, e, _⟩ => by rw [e]; rfl) ?_
  rintro X G ⟨cdv, A, outer, s, H, E, rfl⟩ hgu hr
  refine ⟨_, (ds_one (ds_ret (pd_tuple T.tuple (pd_lc [("number", 1)] rfl sc_LiveTable_rows.nd (di_row (pd_sortedDI rfl T.sorted (pd_fld cl_LiveTable na_LiveTable_values_by_number (pd_var 0)))) (blkOk_by (by kernel_rfl)) (fun _ _ _ _ _ => (cg_name (i := 1) sc_LiveTable_rows.nd)) (fun _ _ _ _ _ => pdts_nil) (fun _ _ _ _ _ => (pd_tup (pda_cons (pd_var 1) (pda_cons (pd_dix (by exact hr) (pd_fld cl_LiveTable na_LiveTable_values_by_number (pd_var 0)) (pd_var 1)) pda_nil)))))))), ?_⟩
  rintro ds μ Q ⟨a, dd, rows, nx, rfl, hl, q⟩
  walk_at "d0"
  walk_at "x"
  unfold dLc
  walk_at "x"
  refine live_v hl ?_
  refine ⟨.ref dd, _, rows.map (·.1), rfl, live_k hl, keys_rk, by rw [List.length_map]; exact hl.few, fun ns pm pw => ?_⟩
  walk_at "x"
  refine ⟨ns.map .int, rfl, fun E nE => ⟨fun i acc μ' => acc = (ns.take i).map (fun n => encR (n, (lk rows n).getD [])) ∧ ∀ b, b ≠ E → μ' b = μ b, ⟨rfl, fun b h => mup_ne h⟩, fun _ _ _ _ => rfl, ?_, ?_⟩⟩
  · rintro i x acc μ' hx ⟨rfl, oth⟩
    rw [List.getElem?_map] at hx
    obtain ⟨n, hn, rfl⟩ := Option.map_eq_some_iff.mp hx
    have et : ns.take (i + 1) = ns.take i ++ [n] := by rw [List.take_succ, hn]; rfl
    have hin : n ∈ rows.map (·.1) := pm.mem_iff.mp (List.mem_of_getElem? hn)
    obtain ⟨vs, ev⟩ := lk_some_of_mem hin
    have nea : a ≠ E := fun z => by rw [← z, hl.ha] at nE; cases nE
    have ned : dd ≠ E := fun z => by rw [← z, hl.hd] at nE; cases nE
    have hl' : Live cz μ' a dd rows nx := ⟨(oth a nea).trans hl.ha, (oth dd ned).trans hl.hd, hl.nd, hl.few⟩
    simp only [show wipeD [some (D.ref a), none] [1] = [some (D.ref a), none] from rfl]
    walk_at "x"
    refine live_v hl' ?_
    refine ⟨_, .inl n, .tup (vs.map .int), live_k hl', rfl, by rw [val_rk, ev]; rfl, ?_⟩
    walk_at "x"
    refine ⟨by decide, ?_, ?_, oth⟩
    · rw [List.length_map]
      have h1 := List.length_take_le i ns
      have h2 := pm.length_eq
      rw [List.length_map] at h2
      have := hl.few
      exact Nat.lt_of_lt_of_le (show _ < 64 by rw [List.length_take] at *; omega) (sz (by decide))
    · rw [et, List.map_append, List.map_singleton, ev]
      rfl
  · rintro acc μ' ⟨rfl, oth⟩
    rw [List.length_map, List.take_length]
    walk_at "x"
    refine q _ ns pm pw fun b o h => ?_
    have : b ≠ E := fun z => by rw [z, nE] at h; cases h
    rw [mdel_ne this, oth b this]
    exact h
def sp_len (cz : Cs) : SpD := fun ds μ Q => ∃ (a dd : Addr) (rows : Rows) (nx : Int), ds = [.ref a] ∧ Live cz μ a dd rows nx ∧ Q (.int rows.length) μ
theorem ok_len (T : Txt mg K cz) (hc : Hc K cz) (F : Fun K "__len__" "LiveTable.__len__" s_LiveTable___len__ f fd) : FnG P w K mg base CX0 1 f fd ["self"] (up K (sp_len cz)) := by
  obtain ⟨cl_LiveTable, na_LiveTable_values_by_number, na_LiveTable_next_number, nf1, nf2, xm, xf, ex, k1, k2, k3⟩ := hc
  refine okD F sc_LiveTable___len__ (fun ⟨_, _, _, _, e, _⟩ => by rw [e]; rfl) ?_
  rintro X G ⟨cdv, A, outer, s, H, E, rfl⟩ hgu hr
  refine ⟨_, (ds_one (ds_ret (pd_lenK T.len (pd_fld cl_LiveTable na_LiveTable_values_by_number (pd_var 0))))), ?_⟩
  rintro ds μ Q ⟨a, dd, rows, nx, rfl, hl, q⟩
  walk_at "d0"
  walk_at "x"
  refine live_v hl ?_
  refine ⟨.ref dd, _, rfl, live_k hl, ?_⟩
  rw [List.length_map]
  exact q
def sp_has (cz : Cs) : SpD := fun ds μ Q => ∃ (a dd : Addr) (rows : Rows) (nx n : Int), ds = [.ref a, .int n] ∧ Live cz μ a dd rows nx ∧ Q (.bl (decide (n ∈ rows.map (·.1)))) μ
theorem ok_has (T : Txt mg K cz) (hc : Hc K cz) (F : Fun K "__contains__" "LiveTable.__contains__" s_LiveTable___contains__ f fd) : FnG P w K mg base CX0 1 f fd ["self", "number"] (up K (sp_has cz)) := by
  obtain ⟨cl_LiveTable, na_LiveTable_values_by_number, na_LiveTable_next_number, nf1, nf2, xm, xf, ex, k1, k2, k3⟩ := hc
  refine okD F sc_LiveTable___contains__ (fun ⟨_, _, _, _, _, e, _⟩ => by rw [e]; rfl) ?_
  rintro X G ⟨cdv, A, outer, s, H, E, rfl⟩ hgu hr
  refine ⟨_, (ds_one (ds_ret (pd_din (by exact hr) (pd_var 1) (pd_fld cl_LiveTable na_LiveTable_values_by_number (pd_var 0))))), ?_⟩
  rintro ds μ Q ⟨a, dd, rows, nx, n, rfl, hl, q⟩
  walk_at "d0"
  walk_at "x"
  refine live_v hl ?_
  refine ⟨_, .inl n, live_k hl, rfl, ?_⟩
  rw [has_rk]
  cases h : decide (n ∈ rows.map (·.1)) <;> rw [h] at q <;> exact q
def sp_put (cz : Cs) : SpX := fun ds μ Q _ => ∃ (a dd : Addr) (rows : Rows) (nx : Int) (vs : List Int), ds = [.ref a, .tup (vs.map .int)] ∧ Live cz μ a dd rows nx ∧ nx ∉ rows.map (·.1) ∧ rows.length + 1 < 64 ∧
  ∀ μ', Live cz μ' a dd (rows ++ [(nx, vs)]) (nx + 1) → (∀ b, b ≠ a → b ≠ dd → μ' b = μ b) → Q (.int nx) μ'
theorem ok_put (T : Txt mg K cz) (hc : Hc K cz) (F : Fun K "put" "LiveTable.put" s_LiveTable_put f fd) : FnV P w K mg base (CX P w) 1 f fd ["self", "values"] (upX K (sp_put cz)) := by
  obtain ⟨cl_LiveTable, na_LiveTable_values_by_number, na_LiveTable_next_number, nf1, nf2, xm, xf, ex, k1, k2, k3⟩ := hc
  refine okXV F sc_LiveTable_put (fun ⟨_, _, _, _, _, e, _⟩ => by rw [e]; rfl) ?_
  rintro X G Ed ⟨cdv, A, outer, s, H, E, rfl⟩ hgu hr wx hp
  refine ⟨_, (ds_cons (ds_set (i := 2) sc_LiveTable_put.nd (pd_fld cl_LiveTable na_LiveTable_next_number (pd_var 0)))
      (ds_cons (ds_dput hr (pd_fld cl_LiveTable na_LiveTable_values_by_number (pd_var 0)) (pd_var 2) (pd_var 1))
      (ds_cons (ds_fldaug cl_LiveTable na_LiveTable_next_number (pd_var 0) pd_int)
      (ds_one (ds_ret (pd_var 2)))))), ?_⟩
  rintro ds μ Q ⟨a, dd, rows, nx, vs, rfl, hl, nin, few, q⟩
  walk_at "d0"
  walk_at "x"
  refine live_n hl ?_
  unfold dDPut
  walk_at "x"
  refine live_v hl ?_
  refine ⟨dd, _, .inl nx, rfl, hl.hd, rfl, ?_, ?_⟩
  · rw [List.length_map]; exact Nat.lt_of_lt_of_le (show _ < 64 from hl.few) (sz (by decide))
  rw [set_new nin]
  unfold dFldAug
  walk_at "x"
  refine ⟨a, _, nx, rfl, by rw [mup_ne hl.ne]; exact hl.ha, tfs_n, 1, _, rfl, by rw [mup_ne hl.ne]; exact hl.ha, (show (tfs dd nx).length < 1000 from (show 2 < 1000 by decide)), ?_⟩
  rw [tfs_s]
  walk_at "x"
  refine q _ ⟨mup_same, ?_, ?_, by rw [List.length_append]; exact few⟩ fun b h1 h2 => by rw [mup_ne h1, mup_ne h2]
  · rw [mup_ne hl.ne.symm, mup_same]
  · rw [List.map_append, List.nodup_append]
    exact ⟨hl.nd, by simp, fun x hx y hy e => nin (by simp at hy; rw [← hy, ← e]; exact hx)⟩
def sp_change (cz : Cs) : SpX := fun ds μ Q Ed => ∃ (a dd : Addr) (rows : Rows) (nx n : Int) (vs : List Int), ds = [.ref a, .int n, .tup (vs.map .int)] ∧ Live cz μ a dd rows nx ∧
  (n ∈ rows.map (·.1) → ∀ μ', Live cz μ' a dd (putR n vs rows) nx → (∀ b, b ≠ a → b ≠ dd → μ' b = μ b) → Q .non μ') ∧
  (n ∉ rows.map (·.1) → ∀ ed, μ ed = none → Ed cz.NoRow ed (mup μ ed (.xd [("number", .int n), ("name", .str "")])))
theorem ok_LiveTable_change (T : Txt mg K cz) (hc : Hc K cz) (e_NoRow : ErrC P w K mg base 1 "NoRow" cz.NoRow (sp2 K cz.NoRow "name" "number"))
    (F : Fun K "change" "LiveTable.change" s_LiveTable_change f fd) : FnG P w K mg base (CX P w) 3 f fd ["self", "number", "values"] (upX K (sp_change cz)) := by
  obtain ⟨cl_LiveTable, na_LiveTable_values_by_number, na_LiveTable_next_number, nf_NoRow_name, nf_NoRow_number, xm, xf, ex, k1, k2, k3⟩ := hc
  refine okX F sc_LiveTable_change (fun ⟨_, _, _, _, _, _, e, _⟩ => by rw [e]; rfl) ?_
  rintro X G Ed ⟨cdv, A, outer, s, H, E, rfl⟩ hgu hr wx hp
  refine ⟨_, (ds_cons (ds_if (pt_dnin (by exact hr) (pd_var 1) (pd_fld cl_LiveTable na_LiveTable_values_by_number (pd_var 0))) (ds_one (ds_raise2 rfl wx e_NoRow nf_NoRow_name nf_NoRow_number hr (pda_cons pd_str (pda_cons (pd_var 1) pda_nil)))) ds_nil)
      (ds_one (ds_dput hr (pd_fld cl_LiveTable na_LiveTable_values_by_number (pd_var 0)) (pd_var 1) (pd_var 2)))), ?_⟩
  rintro ds μ Q ⟨a, dd, rows, nx, n, vs, rfl, hl, q1, q2⟩
  walk_at "d0"
  walk_at "x"
  refine live_v hl ?_
  refine ⟨_, .inl n, live_k hl, rfl, ?_⟩
  rw [has_rk]
  walk_at "x"
  by_cases hin : n ∈ rows.map (·.1)
  · rw [decide_eq_true hin]
    simp only [show (true == false) = false from rfl, Bool.false_eq_true, if_false]
    walk_at "x"
    unfold dDPut
    walk_at "x"
    refine live_v hl ?_
    refine ⟨dd, _, .inl n, rfl, hl.hd, rfl, ?_, ?_⟩
    · rw [List.length_map]; exact Nat.lt_of_lt_of_le (show _ < 64 from hl.few) (sz (by decide))
    rw [set_old hin]
    refine q1 hin _ ⟨by rw [mup_ne hl.ne]; exact hl.ha, mup_same, by rw [putR_keys]; exact hl.nd, by unfold putR; rw [List.length_map]; exact hl.few⟩ fun b h1 h2 => mup_ne h2
  · rw [decide_eq_false hin]
    simp only [show (false == false) = true from rfl, if_true]
    walk_at "x"
    unfold dRaise2
    walk_at "x"
    exact ⟨_, _, rfl, fun ed ne => q2 hin ed ne⟩
def sp_drop (cz : Cs) : SpX := fun ds μ Q Ed => ∃ (a dd : Addr) (rows : Rows) (nx n : Int), ds = [.ref a, .int n] ∧ Live cz μ a dd rows nx ∧
  (n ∈ rows.map (·.1) → ∀ μ', Live cz μ' a dd (rows.filter fun r => decide (r.1 ≠ n)) nx → (∀ b, b ≠ a → b ≠ dd → μ' b = μ b) → Q .non μ') ∧
  (n ∉ rows.map (·.1) → ∀ ed, μ ed = none → Ed cz.NoRow ed (mup μ ed (.xd [("number", .int n), ("name", .str "")])))
theorem ok_LiveTable_drop (T : Txt mg K cz) (hc : Hc K cz) (e_NoRow : ErrC P w K mg base 1 "NoRow" cz.NoRow (sp2 K cz.NoRow "name" "number"))
    (F : Fun K "drop" "LiveTable.drop" s_LiveTable_drop f fd) : FnG P w K mg base (CX P w) 3 f fd ["self", "number"] (upX K (sp_drop cz)) := by
  obtain ⟨cl_LiveTable, na_LiveTable_values_by_number, na_LiveTable_next_number, nf_NoRow_name, nf_NoRow_number, xm, xf, ex, k1, k2, k3⟩ := hc
  refine okX F sc_LiveTable_drop (fun ⟨_, _, _, _, _, e, _⟩ => by rw [e]; rfl) ?_
  rintro X G Ed ⟨cdv, A, outer, s, H, E, rfl⟩ hgu hr wx hp
  refine ⟨_, (ds_cons (ds_if (pt_dnin (by exact hr) (pd_var 1) (pd_fld cl_LiveTable na_LiveTable_values_by_number (pd_var 0))) (ds_one (ds_raise2 rfl wx e_NoRow nf_NoRow_name nf_NoRow_number hr (pda_cons pd_str (pda_cons (pd_var 1) pda_nil)))) ds_nil)
      (ds_one (ds_expr (pd_dpop (pd_fld cl_LiveTable na_LiveTable_values_by_number (pd_var 0)) (pd_var 1) ⟨rfl, rfl, rfl, rfl⟩)))), ?_⟩
  rintro ds μ Q ⟨a, dd, rows, nx, n, rfl, hl, q1, q2⟩
  walk_at "d0"
  walk_at "x"
  refine live_v hl ?_
  refine ⟨_, .inl n, live_k hl, rfl, ?_⟩
  rw [has_rk]
  walk_at "x"
  by_cases hin : n ∈ rows.map (·.1)
  · rw [decide_eq_true hin]
    simp only [show (true == false) = false from rfl, Bool.false_eq_true, if_false]
    walk_at "x"
    unfold dDPop
    walk_at "x"
    obtain ⟨vs, ev⟩ := lk_some_of_mem hin
    refine live_v hl ?_
    refine ⟨⟨dd, _, rfl, hl.hd⟩, dd, _, .inl n, .tup (vs.map .int), rfl, hl.hd, rfl, by rw [val_rk, ev]; rfl, ?_⟩
    rw [out_rk]
    refine q1 hin _ ⟨by rw [mup_ne hl.ne]; exact hl.ha, mup_same, ?_, Nat.lt_of_le_of_lt (List.length_filter_le _ _) hl.few⟩ fun b h1 h2 => mup_ne h2
    exact hl.nd.sublist (List.Sublist.map _ List.filter_sublist)
  · rw [decide_eq_false hin]
    simp only [show (false == false) = true from rfl, if_true]
    walk_at "x"
    unfold dRaise2
    walk_at "x"
    exact ⟨_, _, rfl, fun ed ne => q2 hin ed ne⟩
end
end K21

namespace K21
open PySem PySem.Spec PyProof.Rows L2 Dl
local macro_rules | `(tactic| walk_at "dd") => `(tactic| try simp only [dSeq, dNext, dRet, dIf, dAsg, dPar, dName, dGTup, dGCons, dGNil, dOp, dVar, slot, dC, dB, dAndT, dOrT, dNotT, dIfE, dAnd, dOr, dTup, dLst, dCons, dNil, dCall, dCallK, dCB, dUn, dSl, dNo, dSome, startD, dM0,
  gEq_int, gNe_int, gEq_bl, gEq_str, gNe_str, gLt_int, gGt_int, gLe_int, gGe_int, gAdd_int, gSub_int, gMul_int, gMod_int, gDiv_int, gPow_int, gNeg_int, gNot_bl, gIs_bl, gIx_t0, gIx_t1, gIx_t2, gLen_l, gLen_t, gSl_l, gSl_sq, gSl_t, gRev_l, gRev_t, gRevM_l, gList_l, gList_sq, gList_t, gMax2_int, gRepr_l, gRepr_t,
  List.map, List.replicate, List.length, List.set, List.cons_append, List.nil_append, List.append, Nat.sub, Nat.reduceSub, Nat.reduceAdd, true_and, and_true, if_true, if_false, decide_true, decide_false, Bool.not_true, Bool.not_false, Bool.false_eq_true, reduceIte])
local macro_rules | `(tactic| walk_at "d0") => `(tactic| try simp only [startD, List.map, List.replicate, List.length, List.cons_append, List.nil_append, List.append, Nat.sub, Nat.reduceSub, Nat.reduceAdd])
local macro_rules | `(tactic| walk_at "dx") => `(tactic| try simp only [↓s_seq, ↓s_next, ↓s_brk, ↓s_cnt, ↓s_retN, ↓s_ret, ↓s_drop, ↓s_if, ↓s_asg, ↓s_par, ↓s_par2, ↓s_tup, ↓s_gnil, ↓s_gcons, ↓s_op, ↓s_c, ↓s_b, ↓s_bB, ↓s_andT, ↓s_orT, ↓s_notT, ↓s_ifE, ↓s_and, ↓s_or, ↓s_bAnd, ↓s_bOr, ↓s_etup, ↓s_lst, ↓s_nil, ↓s_cons, ↓s_call, ↓s_callB, ↓s_cb, ↓s_un, ↓s_m0, ↓s_len, ↓s_both, ↓s_fld, ↓s_setF, ↓s_make, ↓s_makeM, ↓s_meth, ↓s_prop, ↓s_orV, ↓s_sl, ↓s_no, ↓s_some, ↓s_bSome, ↓s_fmt, ↓s_fmtS, ↓s_fmtI, ↓s_join, ↓s_js0, ↓s_js1, ↓s_bJs, ↓s_sub, ↓s_yes, ↓p_nil, ↓v_0, ↓v_1, ↓v_2, ↓v_3, ↓v_4, ↓v_5, ↓v_6, ↓v_7, ↓v_8, ↓v_9, ↓v_10, ↓v_11, ↓v_12, ↓v_13, ↓v_14, ↓v_15, ↓v_16, ↓v_17, ↓n_0, ↓n_1, ↓n_2, ↓n_3, ↓n_4, ↓n_5, ↓n_6, ↓n_7, ↓n_8, ↓n_9, ↓n_10, ↓n_11, ↓n_12, ↓n_13, ↓n_14, ↓n_15, ↓n_16, ↓n_17, ↓p_0, ↓p_1, ↓p_2, ↓p_3, ↓p_4, ↓p_5, ↓p_6, ↓p_7, ↓ex_some, ↓ex_bl, ↓gEq_int, ↓gNe_int, ↓gEq_bl, ↓gNe_bl, ↓gEq_str, ↓gNe_str, ↓gLt_int, ↓gGt_int, ↓gLe_int, ↓gGe_int, ↓gAdd_int, ↓gAdd_str, ↓gAdd_t, ↓gAdd_l, ↓gEq_nil, ↓gNe_nil0, ↓gSub_int, ↓gMul_int, ↓gMod_int, ↓gDiv_int, ↓gPow_int, ↓gNeg_int, ↓gNot_bl, ↓gIs_bl, ↓gIx_t0, ↓gIx_t1, ↓gIx_t2, ↓gLen_l, ↓gLen_t, ↓gSl_l, ↓gSl_sq, ↓gSl_t, ↓gRev_l, ↓gRev_t, ↓gRevM_l, ↓gList_l, ↓gList_sq, ↓gList_t, ↓gMax2_int, ↓gRepr_l, ↓gRepr_t, ↓gAbs_int, ↓gDivA_int, ↓gMulW_int, ↓gStrI_int, ↓gBoolI_int, ↓gBoolI_bl, ↓gTuple_l, ↓gTuple_t, ↓gIsi_non, ↓gIsi_bl, ↓gIsi_int, ↓gIsi_str, ↓gIsi_lst, ↓gIsi_tup, ↓gIsi_obj, ↓gDun_obj, ↓gOne_obj, ↓isBl_bl, ↓isStr_str, ansB, ansO, List.length, List.cons_append, List.nil_append, List.append, Nat.reduceAdd, true_and, and_true, if_true, if_false, decide_true, decide_false, Bool.not_true, Bool.not_false, Bool.false_eq_true, reduceIte])

local macro_rules | `(tactic| walk_at "x") => `(tactic| (walk_at "dx"; repeat (simp only [↓s_nsub, ↓s_callX, ↓s_pure, ↓s_pureT, ↓s_rq, ↓s_rowA, ↓s_nnew, ↓s_bM, pick, Dl.nth, List.map_cons, List.map_nil, List.append_nil]; walk_at "dx")))

section
variable {P : Program} {w : World} {K : PySem.W.Frag} {mg : Str → Option Value} {base : Heap} {f : Addr} {fd : FuncData} {cz : Cs}
def Y0 : Pc := ⟨fun _ => none, [], fun _ _ => False, none⟩
theorem wx0 {X : Cx} {G : Gh} : Wx X G (EdY Y0) := wx_calm (Y := Y0)
theorem cut63 {ns : List Int} (h : ns.length ≤ 63) : cutD (ns.map D.int) none (some 63) = ns.map D.int := by
  have e : HT.sIx (ns.map D.int).length (ns.map D.int).length (some 63) = min 63 (ns.map D.int).length := HT.sIx_nat _ _ 63
  unfold Dl.cutD
  rw [e, HT.sIx_none, List.drop_zero, Nat.sub_zero, List.length_map, Nat.min_eq_right h, List.take_of_length_le (by rw [List.length_map]; exact Nat.le_refl _)]
def sp_dk : SpX := fun ds μ Q _ => sp_deck ds μ Q
def sp_dr : SpX := fun ds μ Q _ => sp_draw ds μ Q
def sp_pk : SpX := fun ds μ Q _ => sp_pick ds μ Q
theorem ok__law_deck (T : Txt mg K cz)
    (F : Fun K "_law_deck" "_law_deck" s__law_deck f fd) : FnG P w K mg base (CX P w) 1 f fd ["_law_script"] (upX K (sp_dk)) := by
  refine okX F sc__law_deck (fun ⟨ns, e, _⟩ => by rw [e]; rfl) ?_
  rintro X G Ed ⟨cdv, A, outer, s, H, E, rfl⟩ hgu hr wx hp
  refine ⟨_, (ds_cons (ds_par (i := 1) (j := 2) rfl sc__law_deck.nd (pda_cons (pd_list T.list (by decide +kernel) (pd_slice (pd_var 0) pdo_none (pdo_some pd_int))) (pda_cons pd_int pda_nil)))
      (ds_cons (ds_for hp rfl (di_row (pd_var 1)) (dg_name (i := 3) sc__law_deck.nd) (ds_one (ds_set (i := 2) sc__law_deck.nd (pd_mod (pd_add (pd_add (pd_mul (pd_var 2) pd_int) (pd_mod (pd_var 3) pd_int)) pd_int) pd_int))))
      (ds_one (ds_ret (pd_lstM (pda_cons (pd_revM (pd_var 1)) (pda_cons (pd_var 2) (pda_cons pd_int pda_nil)))))))), ?_⟩
  rintro ds μ Q ⟨ns, rfl, hl, q⟩
  walk_at "dd"
  rw [cut63 hl]
  simp only [dFor, dRowA, dVar, slot]
  refine ⟨_, rfl, fun i ρ μ1 => μ1 = μ ∧ ∃ (m : Int) (v : Option D), ρ = [some (.sq (ns.map .int)), some (.lst (ns.map .int)), some (.int m), v] ∧ 0 ≤ m ∧ m < 2147483648, ⟨rfl, _, none, rfl, by decide, by decide⟩, fun _ _ _ _ => rfl, ?_, ?_⟩
  · rintro i x ρ μ1 hx ⟨rfl, m, v, rfl, h0, h1⟩
    rw [List.getElem?_map] at hx
    obtain ⟨z, _, rfl⟩ := Option.map_eq_some_iff.mp hx
    walk_at "dd"
    refine ⟨.inr ⟨by decide, by decide⟩, by decide, by decide, _, _, rfl, Int.emod_nonneg _ (by decide), ?_⟩
    exact Int.lt_trans (Int.emod_lt_of_pos _ (show (0 : Int) < 2147483587 by decide)) (by decide)
  · rintro ρ μ1 ⟨rfl, m, v, rfl, h0, h1⟩
    simp only [dRet, dLstM, dCons, dNil, dUn, dVar, slot, dC, gRevM_l]
    refine fun c hc => ⟨by show 3 ≤ sizeLine; decide, fun d hd => ?_⟩
    have ne : d ≠ c := fun e => by rw [e, mup_same] at hd; cases hd
    rw [mup_ne ne] at hd
    refine q _ d c hd hc ⟨ns.reverse, m, 0, mup_same, ?_, ne, ?_, h0, h1, by decide, by decide⟩ fun b h1 h2 => ?_
    · rw [mup_ne ne.symm, mup_same, List.map_reverse]
    · rw [List.length_reverse]; exact hl
    · rw [mup_ne h1, mup_ne h2]
theorem sq_lt {x : Int} : CMul (x % 2147483647) (x % 2147483647) := by
  have h1 := Int.emod_nonneg x (show (2147483647 : Int) ≠ 0 by decide)
  have h2 := Int.emod_lt_of_pos x (show (0 : Int) < 2147483647 by decide)
  exact .inl ⟨by omega, by omega⟩
theorem getLast_ints {cells : List Int} (h : cells ≠ []) : ∃ z, (cells.map D.int)[(cells.map D.int).length - 1]? = some (.int z) ∧ (cells.map D.int).dropLast = (cells.dropLast).map D.int := by
  refine ⟨cells.getLast h, ?_, by rw [List.map_dropLast]⟩
  rw [List.length_map, List.getElem?_map, ← List.getLast?_eq_getElem?, List.getLast?_eq_some_getLast h]
  rfl
theorem ok__law_draw (T : Txt mg K cz)
    (F : Fun K "_law_draw" "_law_draw" s__law_draw f fd) : FnG P w K mg base (CX P w) 1 f fd ["_law_deck_here", "_law_many"] (upX K (sp_dr)) := by
  refine okX F sc__law_draw (fun ⟨d, c, m, n, e, _⟩ => by rw [e]; rfl) ?_
  rintro X G Ed ⟨cdv, A, outer, s, H, E, rfl⟩ hgu hr wx hp
  refine ⟨_, (ds_cons (ds_asg (pd_add (pd_at (pd_var 0) pd_int) pd_int) (dg_sub (pd_var 0) pd_int))
      (ds_cons (ds_set (i := 2) sc__law_draw.nd (pd_at (pd_var 0) pd_int))
      (ds_cons (ds_if (pt_ne (by exact hr) (pd_at (pd_var 0) pd_int) (pd_lst pda_nil)) (ds_cons (ds_set (i := 2) sc__law_draw.nd (pd_pop (pd_at (pd_var 0) pd_int)))
      (ds_cons (ds_if (pt_ge (by exact hr) (pd_var 2) (pd_pow pd_int pd_int)) (ds_cons (ds_expr (pd_append (pd_at (pd_var 0) pd_int) (pda_cons (pd_div (pd_var 2) (pd_var 1)) pda_nil)))
      (ds_one (ds_ret (pd_mod (pd_var 2) (pd_var 1))))) ds_nil)
      (ds_one (ds_set (i := 2) sc__law_draw.nd (pd_add (pd_var 2) (pd_at (pd_var 0) pd_int)))))) ds_nil)
      (ds_cons (ds_set (i := 3) sc__law_draw.nd (pd_mod (pd_mul (pd_add (pd_add (pd_mod (pd_var 2) pd_int) (pd_mul (pd_mul pd_int (pd_at (pd_var 0) pd_int)) (pd_at (pd_var 0) pd_int))) pd_int) pd_int) pd_int))
      (ds_cons (ds_set (i := 3) sc__law_draw.nd (pd_mod (pd_add (pd_add (pd_mul (pd_var 3) (pd_var 3)) (pd_mul pd_int (pd_at (pd_var 0) pd_int))) pd_int) pd_int))
      (ds_one (ds_ret (pd_mod (pd_div (pd_mod (pd_mul (pd_var 3) pd_int) pd_int) pd_int) (pd_var 1))))))))), ?_⟩
  rintro ds μ Q ⟨d, c, many, n, rfl, h0, h1, ⟨cells, m, t, hd, hc, ne, hl, m0, m1, t0, t1⟩, hn, q⟩
  walk_at "dd"
  simp only [dSub, gIx_r2 hd, gSet_2 hd, dOp, dVar, dC, slot, gAdd_int]
  have hd1 : (mup μ d (.lst [.ref c, .int m, .int (t + 1)])) d = some (.lst [.ref c, .int m, .int (t + 1)]) := mup_same
  have hc1 : (mup μ d (.lst [.ref c, .int m, .int (t + 1)])) c = some (.lst (cells.map .int)) := (mup_ne ne.symm).trans hc
  have b1 : But d c μ (mup μ d (.lst [.ref c, .int m, .int (t + 1)])) := fun b h1 h2 => mup_ne h1
  revert hd1 hc1 b1
  generalize mup μ d (.lst [.ref c, .int m, .int (t + 1)]) = μ1
  intro hd1 hc1 b1
  simp only [dSeq, dNext, dIf, dAsg, dName, dOp, dVar, slot, dC, dB, dLst, dNil, gIx_r1 hd1, gIx_r0 hd1, List.set, gNe_nil hc1, List.length, Nat.zero_le, true_and]
  by_cases hz : cells = []
  · subst hz
    simp only [List.isEmpty_nil, Bool.not_true, Bool.false_eq_true, if_false]
    simp only [dRet, gIx_r2 hd1, gMul_int, gMod_int, gAdd_int, gDiv_int, dOp, dVar, slot, dC, List.set]
    refine ⟨by decide, .inl ⟨by decide, by decide⟩, .inr ⟨by omega, by omega⟩, .inr ⟨by decide, by decide⟩, by decide, sq_lt, .inl ⟨by decide, by decide⟩, by decide, .inr ⟨by decide, by decide⟩, by decide, ⟨by decide, by decide⟩, h0, ?_⟩
    exact q _ _ (Int.emod_nonneg _ (by omega)) (Int.emod_lt_of_pos _ h0) ⟨[], m, t + 1, hd1, hc1, ne, hl, m0, m1, by omega, by omega⟩ b1
  · obtain ⟨z, ez, ed⟩ := getLast_ints hz
    have e1 : (!cells.isEmpty) = true := by cases cells with | nil => exact absurd rfl hz | cons _ _ => rfl
    simp only [e1, if_true, dM0, dOp, dVar, slot, dC, List.set, gIx_r0 hd1, gPop_ref hc1 ez, ed, gGe_int, gPow_int]
    have hd2 : (mup μ1 c (.lst (cells.dropLast.map .int))) d = some (.lst [.ref c, .int m, .int (t + 1)]) := (mup_ne ne).trans hd1
    have hc2 : (mup μ1 c (.lst (cells.dropLast.map .int))) c = some (.lst (cells.dropLast.map .int)) := mup_same
    have b2 : But d c μ (mup μ1 c (.lst (cells.dropLast.map .int))) := fun b h1 h2 => (mup_ne h2).trans (b1 b h1 h2)
    have l2 : cells.dropLast.length + 1 = cells.length := by
      rw [List.length_dropLast]
      have : 0 < cells.length := List.length_pos_iff.mpr hz
      omega
    revert hd2 hc2 b2
    generalize mup μ1 c (.lst (cells.dropLast.map .int)) = μ2
    intro hd2 hc2 b2
    refine ⟨⟨by decide, by decide, by decide⟩, ?_⟩
    by_cases hb : (10 : Int) ^ (18 : Int).toNat ≤ z
    · simp only [hb, decide_true, if_true, dDrop, dM, dOp, dVar, slot, dC, dCons, dNil, gIx_r0 hd2, gDiv_int, gAppend_ref hc2, dRet, gMod_int]
      refine ⟨⟨c, _, rfl, hc2⟩, ⟨h0, h1⟩, Nat.lt_of_le_of_lt (show _ ≤ 63 by rw [List.length_map]; omega) (by decide), h0, ?_⟩
      refine q _ _ (Int.emod_nonneg _ (by omega)) (Int.emod_lt_of_pos _ h0) ⟨cells.dropLast ++ [z / many], m, t + 1, (mup_ne ne).trans hd2, ?_, ne, ?_, m0, m1, by omega, by omega⟩ fun b g1 g2 => (mup_ne g2).trans (b2 b g1 g2)
      · rw [mup_same, List.map_append]; rfl
      · rw [List.length_append]; show _ + 1 ≤ 63; omega
    · simp only [hb, decide_false, Bool.false_eq_true, if_false, dRet, gIx_r2 hd2, gIx_r1 hd2, gMul_int, gMod_int, gAdd_int, gDiv_int, dOp, dVar, slot, dC, List.set]
      refine ⟨by decide, .inl ⟨by decide, by decide⟩, .inr ⟨by omega, by omega⟩, .inr ⟨by decide, by decide⟩, by decide, sq_lt, .inl ⟨by decide, by decide⟩, by decide, .inr ⟨by decide, by decide⟩, by decide, ⟨by decide, by decide⟩, h0, ?_⟩
      exact q _ _ (Int.emod_nonneg _ (by omega)) (Int.emod_lt_of_pos _ h0) ⟨cells.dropLast, m, t + 1, hd2, hc2, ne, by omega, m0, m1, by omega, by omega⟩ b2
theorem ok__law_pick (T : Txt mg K cz) (q__law_draw_2 : ClX P w K mg base 1 "_law_draw" (sp_dr) 2 [] [] [0, 1])
    (F : Fun K "_law_pick" "_law_pick" s__law_pick f fd) : FnG P w K mg base (CX P w) 2 f fd ["_law_deck_here", "_law_some"] (upX K (sp_pk)) := by
  refine okX F sc__law_pick (fun ⟨d, c, m, n, e, _⟩ => by rw [e]; rfl) ?_
  rintro X G Ed ⟨cdv, A, outer, s, H, E, rfl⟩ hgu hr wx hp
  refine ⟨_, (ds_one (ds_ret (pd_at (pd_var 1) (pd_cx wx0 q__law_draw_2 (by exact hr) (by exact hgu) (pdc_p (pda_cons (pd_var 0) (pda_cons (pd_len T.len (pd_var 1)) pda_nil))))))), ?_⟩
  rintro ds μ Q ⟨d, c, xs, n, rfl, h0, h1, hd, hn, q⟩
  walk_at "d0"
  walk_at "x"
  refine ⟨rfl, d, c, _, n, rfl, by omega, by omega, hd, hn, fun μ1 i i0 i1 hd1 b1 => ?_⟩
  obtain ⟨k, rfl⟩ := Int.eq_ofNat_of_zero_le i0
  have hk : k < xs.length := by omega
  rw [gIx_l (List.getElem?_eq_getElem hk)]
  exact q _ _ (List.getElem_mem hk) hd1 b1
def Frm (d c : Addr) (μ μ' : Mu) : Prop := ∀ b o, μ b = some o → b ≠ d → b ≠ c → μ' b = some o
theorem Frm.refl {d c : Addr} {μ : Mu} : Frm d c μ μ := fun _ _ h _ _ => h
theorem Frm.but {d c : Addr} {μ μ1 μ2 : Mu} (h : Frm d c μ μ1) (b : But d c μ1 μ2) : Frm d c μ μ2 := fun a o e n1 n2 => by rw [b a n1 n2]; exact h a o e n1 n2
theorem Frm.trans {d c : Addr} {μ μ1 μ2 : Mu} (h : Frm d c μ μ1) (b : Frm d c μ1 μ2) : Frm d c μ μ2 := fun a o e n1 n2 => b a o (h a o e n1 n2) n1 n2
theorem Frm.fresh {d c p : Addr} {o : Ob} {μ μ1 : Mu} (h : Frm d c μ μ1) (n : μ1 p = none) : Frm d c μ (mup μ1 p o) := fun a o e n1 n2 => by
  have := h a o e n1 n2
  rw [mup_ne fun z => by rw [z, n] at this; cases this]
  exact this
theorem deck_ne {μ : Mu} {d c : Addr} {n : Nat} (h : Deck μ d c n) : μ d ≠ none ∧ μ c ≠ none := by
  obtain ⟨cells, m, t, h1, h2, _⟩ := h
  exact ⟨by rw [h1]; simp, by rw [h2]; simp⟩
theorem deck_keep {μ μ' : Mu} {d c : Addr} {n : Nat} (h : Deck μ d c n) (e1 : μ' d = μ d) (e2 : μ' c = μ c) : Deck μ' d c n := by
  obtain ⟨cells, m, t, h1, h2, r⟩ := h
  exact ⟨cells, m, t, e1.trans h1, e2.trans h2, r⟩
theorem deck_fresh {μ : Mu} {d c p : Addr} {n : Nat} {o : Ob} (h : Deck μ d c n) (e : μ p = none) : Deck (mup μ p o) d c n :=
  deck_keep h (mup_ne fun z => (deck_ne h).1 (by rw [z]; exact e)) (mup_ne fun z => (deck_ne h).2 (by rw [z]; exact e))
theorem deck_gone {μ : Mu} {d c p : Addr} {n : Nat} (h : Deck μ d c n) (n1 : d ≠ p) (n2 : c ≠ p) : Deck (mdel μ p) d c n := deck_keep h (mdel_ne n1) (mdel_ne n2)
theorem rng_at {n i : Nat} {x : D} (h : (rng 0 (n : Int).toNat)[i]? = some x) : i < n ∧ x = .int (i : Int) := by
  unfold rng at h
  rw [Int.toNat_natCast, List.getElem?_map] at h
  obtain ⟨k, hk, rfl⟩ := Option.map_eq_some_iff.mp h
  have h2 := (List.getElem?_eq_some_iff.mp hk).1
  have h3 := (List.getElem?_eq_some_iff.mp hk).2
  rw [List.length_range] at h2
  rw [List.getElem_range] at h3
  exact ⟨h2, by rw [← h3, Int.zero_add]⟩
theorem rng_len {n : Nat} : (rng 0 (n : Int).toNat).length = n := by unfold rng; rw [List.length_map, Int.toNat_natCast, List.length_range]
theorem wipe4 {a b c d : Option D} : wipeD [a, b, c, d] [3] = [a, b, c, none] := rfl
/-- small values -/
def Sml (m : Nat) (vs : List Int) : Prop := vs.length = m ∧ ∀ v ∈ vs, v.natAbs ≤ 1000000000
def sp_values : SpX := fun ds μ Q _ => ∃ (d c : Addr) (many n : Nat), ds = [.ref d, .int (many : Int)] ∧ 1 ≤ many ∧ many ≤ 3 ∧ Deck μ d c n ∧ n < 900000000 ∧
  ∀ μ' vs, Sml many vs → Deck μ' d c (n + 6) → Frm d c μ μ' → Q (.tup (vs.map .int)) μ'
theorem ok__law_values (T : Txt mg K cz) (q__law_draw_2 : ClX P w K mg base 1 "_law_draw" (sp_dr) 2 [] [] [0, 1]) (q__law_pick_2 : ClX P w K mg base 2 "_law_pick" (sp_pk) 2 [] [] [0, 1])
    (F : Fun K "_law_values" "_law_values" s__law_values f fd) : FnG P w K mg base (CX P w) 3 f fd ["_law_deck_here", "_law_many"] (upX K (sp_values)) := by
  refine okX F sc__law_values (fun ⟨_, _, _, _, e, _⟩ => by rw [e]; rfl) ?_
  rintro X G Ed ⟨cdv, A, outer, s, H, E, rfl⟩ hgu hr wx hp
  refine ⟨_, (ds_cons (ds_set (i := 2) sc__law_values.nd (pd_pow pd_int pd_int))
      (ds_one (ds_ret (pd_tuple T.tuple (pd_lc [("_law_k", 3)] rfl sc__law_values.nd (di_range1 T.range (pda_cons (pd_var 1) pda_nil)) (blkOk_by (by kernel_rfl)) (fun _ _ _ _ _ => (cg_name (i := 3) sc__law_values.nd)) (fun _ _ _ _ _ => pdts_nil) (fun _ _ _ _ _ => (pd_cx wx0 q__law_pick_2 (by exact hr) (by exact hgu) (pdc_p (pda_cons (pd_var 0) (pda_cons (pd_lst (pda_cons pd_int (pda_cons pd_int (pda_cons (pd_neg pd_int) (pda_cons pd_int (pda_cons (pd_cx wx0 q__law_draw_2 (by exact hr) (by exact hgu) (pdc_p (pda_cons (pd_var 0) (pda_cons pd_int pda_nil)))) (pda_cons (pd_var 2) (pda_cons (pd_neg (pd_var 2)) pda_nil)))))))) pda_nil)))))))))), ?_⟩
  rintro ds μ Q ⟨d, c, many, n, rfl, m1, m3, hd, hn, q⟩
  walk_at "d0"
  walk_at "x"
  refine ⟨⟨by decide, by decide, by decide⟩, ?_⟩
  unfold dLc dRng1
  walk_at "x"
  refine ⟨by omega, by omega, fun E nE => ⟨fun i acc μ' => ∃ vs : List Int, acc = vs.map .int ∧ Sml i vs ∧ Deck μ' d c (n + 2 * i) ∧ Frm d c μ μ' ∧ μ' E = some .hid, ⟨[], rfl, ⟨rfl, nofun⟩, deck_fresh hd nE, Frm.refl.fresh nE, mup_same⟩, fun _ _ _ _ => trivial, ?_, ?_⟩⟩
  · rintro i x acc μ1 hx ⟨vs, rfl, ⟨hv1, hv2⟩, hd1, fr1, hE⟩
    obtain ⟨hi, rfl⟩ := rng_at hx
    simp only [wipe4]
    walk_at "x"
    refine ⟨rfl, d, c, 9, _, rfl, by decide, by decide, hd1, by omega, fun μ2 j j0 j1 hd2 b2 => ?_⟩
    walk_at "x"
    refine ⟨sz (by decide), d, c, _, _, rfl, (show 0 < 7 by decide), (show 7 < 1073741824 by decide), hd2, by omega, fun μ3 y hy hd3 b3 => ?_⟩
    obtain ⟨v, rfl, hv⟩ : ∃ v : Int, y = .int v ∧ v.natAbs ≤ 1000000000 := by
      simp only [List.mem_cons, List.not_mem_nil, or_false] at hy
      rcases hy with rfl | rfl | rfl | rfl | rfl | rfl | rfl
      · exact ⟨_, rfl, by decide⟩
      · exact ⟨_, rfl, by decide⟩
      · exact ⟨_, rfl, by decide⟩
      · exact ⟨_, rfl, by decide⟩
      · exact ⟨_, rfl, by omega⟩
      · exact ⟨_, rfl, by decide⟩
      · exact ⟨_, rfl, by decide⟩
    have nE : E ≠ d ∧ E ≠ c := ⟨fun z => (deck_ne hd1).1 (by
      obtain ⟨_, _, _, h, _⟩ := hd1
      rw [← z, hE] at h; cases h), fun z => by
      obtain ⟨_, _, _, _, h, _⟩ := hd1
      rw [← z, hE] at h; cases h⟩
    refine ⟨by rw [List.length_map, hv1]; exact Nat.lt_of_lt_of_le (show i < 10 by omega) (sz (by decide)), vs ++ [v], by rw [List.map_append]; rfl, ⟨by rw [List.length_append, hv1]; rfl, fun x hx => ?_⟩, hd3.more (by omega), (fr1.but b2).but b3, by rw [b3 E nE.1 nE.2, b2 E nE.1 nE.2]; exact hE⟩
    rcases List.mem_append.mp hx with h | h
    · exact hv2 x h
    · rw [List.mem_singleton.mp h]; exact hv
  · rintro acc μ1 ⟨vs, rfl, hv, hd1, fr1, hE⟩
    rw [rng_len] at hv hd1
    walk_at "x"
    have nEE := nE
    have n1 : d ≠ E := fun z => by
      obtain ⟨_, _, _, h, _⟩ := hd1
      rw [z, hE] at h; cases h
    have n2 : c ≠ E := fun z => by
      obtain ⟨_, _, _, _, h, _⟩ := hd1
      rw [z, hE] at h; cases h
    refine q _ vs hv ((deck_gone hd1 n1 n2).more (by omega)) fun b o h k1 k2 => ?_
    rw [mdel_ne fun z => by rw [z, nE] at h; cases h]
    exact fr1 b o h k1 k2
def RwOk (m : Nat) (rows : Rows) (nx : Nat) : Prop := (∀ r ∈ rows, (0 ≤ r.1 ∧ r.1 < (nx : Int)) ∧ Sml m r.2) ∧ (rows.map (·.1)).Nodup
def sp_rw : SpX := fun ds μ Q _ => ∃ (d c : Addr) (many n : Nat), ds = [.ref d, .int (many : Int)] ∧ 1 ≤ many ∧ many ≤ 3 ∧ Deck μ d c n ∧ n < 800000000 ∧
  ∀ μ' rows nx, rows.length ≤ 5 → nx ≤ 20 → RwOk many rows nx → Deck μ' d c (n + 60) → Frm d c μ μ' → Q (.tup [.tup (rows.map encR), .int (nx : Int)]) μ'
theorem ok__law_rows (T : Txt mg K cz) (q__law_draw_2 : ClX P w K mg base 1 "_law_draw" (sp_dr) 2 [] [] [0, 1]) (q__law_values_2 : ClX P w K mg base 3 "_law_values" (sp_values) 2 [] [] [0, 1])
    (F : Fun K "_law_rows" "_law_rows" s__law_rows f fd) : FnG P w K mg base (CX P w) 4 f fd ["_law_deck_here", "_law_many"] (upX K (sp_rw)) := by
  refine okX F sc__law_rows (fun ⟨_, _, _, _, e, _⟩ => by rw [e]; rfl) ?_
  rintro X G Ed ⟨cdv, A, outer, s, H, E, rfl⟩ hgu hr wx hp
  refine ⟨_, (ds_cons (ds_par (i := 2) (j := 3) rfl sc__law_rows.nd (pda_cons (pd_lstM pda_nil) (pda_cons (pd_cx wx0 q__law_draw_2 (by exact hr) (by exact hgu) (pdc_p (pda_cons (pd_var 0) (pda_cons pd_int pda_nil)))) pda_nil)))
      (ds_cons (ds_for hp rfl (di_range1 T.range (pda_cons (pd_cx wx0 q__law_draw_2 (by exact hr) (by exact hgu) (pdc_p (pda_cons (pd_var 0) (pda_cons pd_int pda_nil)))) pda_nil)) (dg_name (i := 4) sc__law_rows.nd) (ds_cons (ds_expr (pd_append (pd_var 2) (pda_cons (pd_tup (pda_cons (pd_var 3) (pda_cons (pd_cx wx0 q__law_values_2 (by exact hr) (by exact hgu) (pdc_p (pda_cons (pd_var 0) (pda_cons (pd_var 1) pda_nil)))) pda_nil))) pda_nil)))
      (ds_one (ds_set (i := 3) sc__law_rows.nd (pd_add (pd_add (pd_var 3) pd_int) (pd_cx wx0 q__law_draw_2 (by exact hr) (by exact hgu) (pdc_p (pda_cons (pd_var 0) (pda_cons pd_int pda_nil)))))))))
      (ds_one (ds_ret (pd_tup (pda_cons (pd_tuple T.tuple (pd_var 2)) (pda_cons (pd_add (pd_var 3) (pd_cx wx0 q__law_draw_2 (by exact hr) (by exact hgu) (pdc_p (pda_cons (pd_var 0) (pda_cons pd_int pda_nil))))) pda_nil))))))), ?_⟩
  rintro ds μ Q ⟨d, c, many, n, rfl, m1, m3, hd, hn, q⟩
  walk_at "d0"
  walk_at "x"
  simp only [dLstM, dNil]
  refine ⟨Nat.zero_le _, fun fl hfl => ?_⟩
  have nf : fl ≠ d ∧ fl ≠ c := ⟨fun e => (deck_ne hd).1 (by rw [← e]; exact hfl), fun e => (deck_ne hd).2 (by rw [← e]; exact hfl)⟩
  have hd1 : Deck (mup μ fl (.lst [])) d c n := deck_fresh hd hfl
  have hf1 : (mup μ fl (.lst [])) fl = some (.lst (([] : Rows).map encR)) := mup_same
  have fr1 : Frm d c μ (mup μ fl (.lst [])) := Frm.refl.fresh hfl
  revert hd1 hf1 fr1
  generalize mup μ fl (.lst []) = μ1
  intro hd1 hf1 fr1
  walk_at "x"
  refine ⟨rfl, d, c, 3, _, rfl, by decide, by decide, hd1, by omega, fun μ2 p p0 p3 hd2 b2 => ?_⟩
  walk_at "x"
  unfold dFor dRng1
  walk_at "x"
  have hf2 : μ2 fl = some (.lst (([] : Rows).map encR)) := (b2 fl nf.1 nf.2).trans hf1
  refine ⟨rfl, d, c, 6, _, rfl, by decide, by decide, hd2, by omega, fun μ3 m m0 m6 hd3 b3 => ?_⟩
  have hf3 : μ3 fl = some (.lst (([] : Rows).map encR)) := (b3 fl nf.1 nf.2).trans hf2
  obtain ⟨mm, rfl⟩ := Int.eq_ofNat_of_zero_le m0
  obtain ⟨pp, rfl⟩ := Int.eq_ofNat_of_zero_le p0
  refine ⟨by omega, by omega, fun i ρ μ' => ∃ (rows : Rows) (pl : Nat) (x4 : Option D), rows.length = i ∧ RwOk many rows pl ∧ pl ≤ 2 + 3 * i ∧ μ' fl = some (.lst (rows.map encR)) ∧ Deck μ' d c (n + 2 + 8 * i) ∧ Frm d c μ μ' ∧ ρ = [some (.ref d), some (.int (many : Int)), some (.ref fl), some (.int (pl : Int)), x4],
    ⟨[], pp, none, rfl, ⟨nofun, by simp⟩, by omega, hf3, hd3.more (by omega), (fr1.but b2).but b3, rfl⟩, fun _ _ _ _ => trivial, ?_, ?_⟩
  · rintro i x ρ μ4 hx ⟨rows, pl, x4, rfl, ok, hpl, hf4, hd4, fr4, rfl⟩
    obtain ⟨hi, rfl⟩ := rng_at hx
    walk_at "x"
    unfold dM
    walk_at "x"
    refine ⟨⟨fl, _, rfl, hf4⟩, rfl, d, c, many, _, rfl, m1, m3, hd4, by omega, fun μ5 vs hv hd5 fr5 => ?_⟩
    have hf5 : μ5 fl = some (.lst (rows.map encR)) := fr5 fl _ hf4 nf.1 nf.2
    walk_at "x"
    rw [gAppend_ref hf5]
    walk_at "x"
    refine ⟨sz (by decide), by rw [List.length_map]; exact Nat.lt_of_lt_of_le (show rows.length < 100 by omega) (sz (by decide)), ?_⟩
    have hd6 := deck_keep (μ' := mup μ5 fl (.lst (rows.map encR ++ [.tup [.int (pl : Int), .tup (vs.map .int)]]))) hd5 (mup_ne nf.1.symm) (mup_ne nf.2.symm)
    refine ⟨rfl, d, c, 3, _, rfl, by decide, by decide, hd6, by omega, fun μ7 k k0 k3 hd7 b7 => ?_⟩
    obtain ⟨kk, rfl⟩ := Int.eq_ofNat_of_zero_le k0
    walk_at "x"
    refine ⟨rows ++ [((pl : Int), vs)], pl + 1 + kk, some (.int (rows.length : Int)), by simp, ⟨fun r hr => ?_, ?_⟩, by omega, ?_, hd7.more (by omega), ?_, by simp⟩
    · rcases List.mem_append.mp hr with h | h
      · have := (ok.1 r h).1
        exact ⟨⟨this.1, by omega⟩, (ok.1 r h).2⟩
      · rw [List.mem_singleton.mp h]
        exact ⟨⟨by show (0 : Int) ≤ pl; omega, by show (pl : Int) < _; omega⟩, hv⟩
    · rw [List.map_append, List.nodup_append]
      refine ⟨ok.2, by simp, fun x hx y hy e => ?_⟩
      obtain ⟨r, hr, rfl⟩ := List.mem_map.mp hx
      have := (ok.1 r hr).1.2
      simp only [List.map_cons, List.map_nil, List.mem_singleton] at hy
      omega
    · rw [b7 fl nf.1 nf.2, mup_same, List.map_append]; rfl
    · refine Frm.but ?_ b7
      intro b o h k1 k2
      rw [mup_ne fun z => by rw [z, hfl] at h; cases h]
      exact fr5 b o (fr4 b o h k1 k2) k1 k2
  · rintro ρ μ4 ⟨rows, pl, x4, hl, ok, hpl, hf4, hd4, fr4, rfl⟩
    rw [rng_len] at hl hd4 hpl
    walk_at "x"
    unfold gTuple
    simp only [vw_ref hf4]
    walk_at "x"
    refine ⟨rfl, d, c, 3, _, rfl, by decide, by decide, hd4, by omega, fun μ5 k k0 k3 hd5 b5 => ?_⟩
    obtain ⟨kk, rfl⟩ := Int.eq_ofNat_of_zero_le k0
    walk_at "x"
    refine ⟨sz (by decide), ?_⟩
    have e : ((pl : Int) + (kk : Int)) = ((pl + kk : Nat) : Int) := by omega
    rw [e]
    refine q _ rows (pl + kk) (by omega) (by omega) ⟨fun r hr => ?_, ok.2⟩ (hd5.more (by omega)) (fr4.but b5)
    have := (ok.1 r hr).1
    exact ⟨⟨this.1, by omega⟩, (ok.1 r hr).2⟩
end
end K21

namespace K21
open PySem PySem.Spec PyProof.Rows L2 Dl
local macro_rules | `(tactic| walk_at "dd") => `(tactic| try simp only [dSeq, dNext, dRet, dIf, dAsg, dPar, dName, dGTup, dGCons, dGNil, dOp, dVar, slot, dC, dB, dAndT, dOrT, dNotT, dIfE, dAnd, dOr, dTup, dLst, dCons, dNil, dCall, dCallK, dCB, dUn, dSl, dNo, dSome, startD, dM0,
  gEq_int, gNe_int, gEq_bl, gEq_str, gNe_str, gLt_int, gGt_int, gLe_int, gGe_int, gAdd_int, gSub_int, gMul_int, gMod_int, gDiv_int, gPow_int, gNeg_int, gNot_bl, gIs_bl, gIx_t0, gIx_t1, gIx_t2, gLen_l, gLen_t, gSl_l, gSl_sq, gSl_t, gRev_l, gRev_t, gRevM_l, gList_l, gList_sq, gList_t, gMax2_int, gRepr_l, gRepr_t,
  List.map, List.replicate, List.length, List.set, List.cons_append, List.nil_append, List.append, Nat.sub, Nat.reduceSub, Nat.reduceAdd, true_and, and_true, if_true, if_false, decide_true, decide_false, Bool.not_true, Bool.not_false, Bool.false_eq_true, reduceIte])
local macro_rules | `(tactic| walk_at "d0") => `(tactic| try simp only [startD, List.map, List.replicate, List.length, List.cons_append, List.nil_append, List.append, Nat.sub, Nat.reduceSub, Nat.reduceAdd])
local macro_rules | `(tactic| walk_at "dx") => `(tactic| try simp only [↓s_seq, ↓s_next, ↓s_brk, ↓s_cnt, ↓s_retN, ↓s_ret, ↓s_drop, ↓s_if, ↓s_asg, ↓s_par, ↓s_par2, ↓s_tup, ↓s_gnil, ↓s_gcons, ↓s_op, ↓s_c, ↓s_b, ↓s_bB, ↓s_andT, ↓s_orT, ↓s_notT, ↓s_ifE, ↓s_and, ↓s_or, ↓s_bAnd, ↓s_bOr, ↓s_etup, ↓s_lst, ↓s_nil, ↓s_cons, ↓s_call, ↓s_callB, ↓s_cb, ↓s_un, ↓s_m0, ↓s_len, ↓s_both, ↓s_fld, ↓s_setF, ↓s_make, ↓s_makeM, ↓s_meth, ↓s_prop, ↓s_orV, ↓s_sl, ↓s_no, ↓s_some, ↓s_bSome, ↓s_fmt, ↓s_fmtS, ↓s_fmtI, ↓s_join, ↓s_js0, ↓s_js1, ↓s_bJs, ↓s_sub, ↓s_yes, ↓p_nil, ↓v_0, ↓v_1, ↓v_2, ↓v_3, ↓v_4, ↓v_5, ↓v_6, ↓v_7, ↓v_8, ↓v_9, ↓v_10, ↓v_11, ↓v_12, ↓v_13, ↓v_14, ↓v_15, ↓v_16, ↓v_17, ↓n_0, ↓n_1, ↓n_2, ↓n_3, ↓n_4, ↓n_5, ↓n_6, ↓n_7, ↓n_8, ↓n_9, ↓n_10, ↓n_11, ↓n_12, ↓n_13, ↓n_14, ↓n_15, ↓n_16, ↓n_17, ↓p_0, ↓p_1, ↓p_2, ↓p_3, ↓p_4, ↓p_5, ↓p_6, ↓p_7, ↓ex_some, ↓ex_bl, ↓gEq_int, ↓gNe_int, ↓gEq_bl, ↓gNe_bl, ↓gEq_str, ↓gNe_str, ↓gLt_int, ↓gGt_int, ↓gLe_int, ↓gGe_int, ↓gAdd_int, ↓gAdd_str, ↓gAdd_t, ↓gAdd_l, ↓gEq_nil, ↓gNe_nil0, ↓gSub_int, ↓gMul_int, ↓gMod_int, ↓gDiv_int, ↓gPow_int, ↓gNeg_int, ↓gNot_bl, ↓gIs_bl, ↓gIx_t0, ↓gIx_t1, ↓gIx_t2, ↓gLen_l, ↓gLen_t, ↓gSl_l, ↓gSl_sq, ↓gSl_t, ↓gRev_l, ↓gRev_t, ↓gRevM_l, ↓gList_l, ↓gList_sq, ↓gList_t, ↓gMax2_int, ↓gRepr_l, ↓gRepr_t, ↓gAbs_int, ↓gDivA_int, ↓gMulW_int, ↓gStrI_int, ↓gBoolI_int, ↓gBoolI_bl, ↓gTuple_l, ↓gTuple_t, ↓gIsi_non, ↓gIsi_bl, ↓gIsi_int, ↓gIsi_str, ↓gIsi_lst, ↓gIsi_tup, ↓gIsi_obj, ↓gDun_obj, ↓gOne_obj, ↓isBl_bl, ↓isStr_str, ansB, ansO, List.length, List.cons_append, List.nil_append, List.append, Nat.reduceAdd, true_and, and_true, if_true, if_false, decide_true, decide_false, Bool.not_true, Bool.not_false, Bool.false_eq_true, reduceIte])

local macro_rules | `(tactic| walk_at "x") => `(tactic| (walk_at "dx"; repeat (simp only [↓s_nsub, ↓s_callX, ↓s_pure, ↓s_pureT, ↓s_rq, ↓s_rowA, ↓s_nnew, ↓s_bM, pick, Dl.nth, List.map_cons, List.map_nil, List.append_nil]; walk_at "dx")))

/-- what the class's defs promise -/
structure Hm (P : Program) (w : World) (K : PySem.W.Frag) (mg : Str → Option Value) (base : Heap) (cz : Cs) : Prop where
  k2 : Ctor P w K mg base 1 "LiveTable" cz.LiveTable (sp_init cz) 2 [] [] [0, 1, 2]
  kk : Ctor P w K mg base 1 "LiveTable" cz.LiveTable (sp_init cz) 0 ["following", "rows"] [] [0, 2, 1]
  k0 : Ctor P w K mg base 1 "LiveTable" cz.LiveTable (sp_init cz) 0 [] [.tup [], .int 0] [0, 1, 2]
  pr : PrC P w K mg base 1 cz.LiveTable "rows" (sp_rows cz)
  dl : Dun P w K mg base cz.LiveTable "__len__" 1 (sp_len cz)
  dh : Dun P w K mg base cz.LiveTable "__contains__" 1 (sp_has cz)
  vp : MeV P w K mg base 1 cz.LiveTable "put" (sp_put cz)
  c2 : MeX P w K mg base 3 cz.LiveTable "change" (sp_change cz) 2 [] [] [0, 1, 2]
  ck : MeX P w K mg base 3 cz.LiveTable "change" (sp_change cz) 0 ["values", "number"] [] [0, 2, 1]
  d1 : MeX P w K mg base 3 cz.LiveTable "drop" (sp_drop cz) 1 [] [] [0, 1]
  dk : MeX P w K mg base 3 cz.LiveTable "drop" (sp_drop cz) 0 ["number"] [] [0, 1]
section
variable {P : Program} {w : World} {K : PySem.W.Frag} {mg : Str → Option Value} {base : Heap} {f : Addr} {fd : FuncData} {cz : Cs}
def frD : Option (List Int) → D
  | none => .non
  | some vs => .tup (vs.map .int)
def after (n : Int) (rows : Rows) : Option (List Int) → Rows
  | none => rows.filter fun r => decide (r.1 ≠ n)
  | some vs => putR n vs rows
def sp_refused (cz : Cs) : SpX := fun ds μ Q _ => ∃ (a dd : Addr) (rows : Rows) (nx n : Int) (fr : Option (List Int)), ds = [.ref a, .int n, frD fr] ∧ Live cz μ a dd rows nx ∧
  (n ∈ rows.map (·.1) → ∀ μ', Live cz μ' a dd (after n rows fr) nx → (∀ b, b ≠ a → b ≠ dd → μ' b = μ b) → Q (.tup [.str "none"]) μ') ∧
  (n ∉ rows.map (·.1) → ∀ μ', Ext μ μ' → Q (.tup [.str "", .int n]) μ')
theorem none_ok {μ : Mu} {Q : DQ} (q : Q (.tup [.str "none"]) μ) : gIsN .non .non μ fun x μ1 => bB x μ1 fun c μ1 => if c = true then 1 ≤ sizeLine ∧ Q (.tup [.str "none"]) μ1 else Q (.tup [.str "odd"]) μ1 := ⟨sz (by decide), q⟩
theorem nm_l {n : Int} : List.lookup ("name" : Str) [(("number" : Str), D.int n), ("name", .str "")] = some (D.str "") := by simp only [List.lookup, show (("name" : Str) == "number") = false by decide +kernel, show (("name" : Str) == "name") = true by decide +kernel]
theorem nu_l {n : Int} : List.lookup ("number" : Str) [(("number" : Str), D.int n), ("name", .str "")] = some (D.int n) := by simp only [List.lookup, show (("number" : Str) == "number") = true by decide +kernel]
def suiteT (cz : Cs) (a dd : Addr) : DS := dSeq (dAsg (dAnd (dCB (gIsE a dd (.ref cz.WakeError) true) (dCons (dVar 5) (dCons (dC (.ref cz.WakeError)) dNil))) (dAnd (dCB (gIsE a dd (.ty "ValueError") true) (dCons (dVar 5) (dCons (dC (.ty "ValueError")) dNil))) (dUn gNot (dCB (gIsE a dd (.ref cz.NoTable) false) (dCons (dVar 5) (dCons (dC (.ref cz.NoTable)) dNil)))))) (dName 6))
  (dAsg (dIfE (dB (dVar 6)) (dTup (dCons (dXf a dd "name" (dVar 5)) (dCons (dXf a dd "number" (dVar 5)) dNil))) (dTup (dCons (dC (.str "other")) dNil))) (dName 3))
theorem suite_ok {a ed : Addr} {x0 x2 x3 : Option D} {n : Int} {μ : Mu} {Q : DQ} (hx : μ ed = some (.xd [("number", .int n), ("name", .str "")])) (q : Q (.tup [.str "", .int n]) μ) :
    suiteT cz a ed { nx := fun ρ2 μ2 => dVar 3 (List.set ρ2 5 none) μ2 Q, rt := Q } (List.set [x0, some (.int n), x2, x3, none, none, none] 5 (some (.ref a))) μ := by
  simp only [List.set_cons_succ, List.set_cons_zero]
  unfold suiteT
  walk_at "x"
  rw [gIsE_r hx]
  walk_at "x"
  rw [gIsE_r hx]
  walk_at "x"
  rw [gIsE_r hx]
  walk_at "x"
  unfold dXf
  walk_at "x"
  refine ⟨_, _, hx, nm_l, _, _, hx, nu_l, sz (by decide), ?_⟩
  simp only [List.set_cons_succ, List.set_cons_zero]
  exact q
theorem ok__law_refused (T : Txt mg K cz) (hc : Hc K cz) (hm : Hm P w K mg base cz)
    (F : Fun K "_law_refused" "_law_refused" s__law_refused f fd) : FnG P w K mg base (CX P w) 4 f fd ["_law_table", "_law_place", "_law_fresh"] (upX K (sp_refused cz)) := by
  obtain ⟨cl_LiveTable, na_LiveTable_values_by_number, na_LiveTable_next_number, nf_NoRow_name, nf_NoRow_number, xm_NoRow, xf_NoRow, ex_NoRow, ki_NoRow_WakeError, ki_NoRow_ValueError, ki_NoRow_NoTable⟩ := hc
  obtain ⟨k_LiveTable_2, k_LiveTable_0_following_rows, k_LiveTable_0, p_rows, d___len__, d___contains__, v_put, m_change_2, m_change_0_values_number, m_drop_1, m_drop_0_number⟩ := hm
  refine okX F sc__law_refused (fun ⟨_, _, _, _, _, _, e, _⟩ => by rw [e]; rfl) ?_
  rintro X G Ed ⟨cdv, A, outer, s, H, E, rfl⟩ hgu hr wx hp
  refine ⟨_, (ds_cons (ds_set (i := 3) sc__law_refused.nd (pd_tup (pda_cons pd_str pda_nil)))
      (ds_cons (ds_try1 (i := 5) rfl rfl sc__law_refused.nd wx0 (names_own T.NoRow) xm_NoRow (fun _ _ _ _ wx1 hp => (ds_cons (ds_if (pt_isN (pd_var 2) pd_non) (ds_one (ds_set (i := 4) sc__law_refused.nd (pd_if (pt_eq (by exact hr) (pd_mod (pd_var 1) pd_int) pd_int) (pd_mx wx1 m_drop_1 (by exact hr) (by exact hgu) (pd_var 0) (pdc_p (pda_cons (pd_var 1) pda_nil))) (pd_mx wx1 m_drop_0_number (by exact hr) (by exact hgu) (pd_var 0) (pdc_k (pdk_cons (pd_var 1) pdk_nil)))))) (ds_one (ds_set (i := 4) sc__law_refused.nd (pd_if (pt_eq (by exact hr) (pd_mod (pd_var 1) pd_int) pd_int) (pd_mx wx1 m_change_2 (by exact hr) (by exact hgu) (pd_var 0) (pdc_p (pda_cons (pd_var 1) (pda_cons (pd_var 2) pda_nil)))) (pd_mx wx1 m_change_0_values_number (by exact hr) (by exact hgu) (pd_var 0) (pdc_k (pdk_cons (pd_var 2) (pdk_cons (pd_var 1) pdk_nil))))))))
      (ds_one (ds_set (i := 3) sc__law_refused.nd (pd_if (pt_isN (pd_var 4) pd_non) (pd_tup (pda_cons pd_str pda_nil)) (pd_var 3)))))) (fun a oe dd pn hz hf => (ds_cons (ds_set (i := 6) sc__law_refused.nd (pd_and (pd_isE ex_NoRow hz hf ki_NoRow_WakeError clsv_own T.isinstance (pda_cons (pd_var 5) (pda_cons (pd_gref T.WakeError) pda_nil))) (pd_and (pd_isE ex_NoRow hz hf ki_NoRow_ValueError clsv_ty T.isinstance (pda_cons (pd_var 5) (pda_cons (pd_tyname (n := "ValueError") T.ValueError (by decide +kernel)) pda_nil))) (pd_one (pd_not (pd_isE ex_NoRow hz hf ki_NoRow_NoTable clsv_own T.isinstance (pda_cons (pd_var 5) (pda_cons (pd_gref T.NoTable) pda_nil))))))))
      (ds_one (ds_set (i := 3) sc__law_refused.nd (pd_if (pt_b (pd_var 6)) (pd_tup (pda_cons (pd_xf xf_NoRow nf_NoRow_name hz hf (pd_var 5)) (pda_cons (pd_xf xf_NoRow nf_NoRow_number hz hf (pd_var 5)) pda_nil))) (pd_tup (pda_cons pd_str pda_nil))))))))
      (ds_one (ds_ret (pd_var 3))))), ?_⟩
  rintro ds μ Q ⟨a, dd, rows, nx, n, fr, rfl, hl, q1, q2⟩
  walk_at "d0"
  walk_at "x"
  refine ⟨sz (by decide), ?_⟩
  unfold dTry1 dTryAs
  have no1 : List.lookup ("drop" : Str) (tfs dd nx) = none := by simp only [tfs, List.lookup, show (("drop" : Str) == "values_by_number") = false by decide +kernel, show (("drop" : Str) == "next_number") = false by decide +kernel]
  have no2 : List.lookup ("change" : Str) (tfs dd nx) = none := by simp only [tfs, List.lookup, show (("change" : Str) == "values_by_number") = false by decide +kernel, show (("change" : Str) == "next_number") = false by decide +kernel]
  have oa : oin μ (.ref a) = some (cz.LiveTable, tfs dd nx) := by simp only [oin, hl.ha]
  cases fr with
  | none =>
    walk_at "x"
    have e1 : ∀ Q', gIsN (frD none) D.non μ Q' = Q' (.bl true) μ := fun Q' => rfl
    rw [e1]
    walk_at "x"
    refine ⟨by decide, ?_⟩
    by_cases par : n % 2 = 0
    · rw [decide_eq_true par, if_pos rfl]
      unfold dMethX
      walk_at "x"
      refine ⟨⟨_, oa, no1⟩, a, dd, rows, nx, n, rfl, hl, fun hin μ' hl' fr' => ?_, fun hin ed ne => ?_⟩
      · exact none_ok (q1 hin μ' hl' fr')
      · refine try1_er fun a' => ?_
        exact suite_ok mup_same (q2 hin _ fun b o h => by rw [mup_ne fun z => by rw [z, ne] at h; cases h]; exact h)
    · rw [decide_eq_false par, if_neg (by decide)]
      unfold dMethX
      walk_at "x"
      refine ⟨⟨_, oa, no1⟩, a, dd, rows, nx, n, rfl, hl, fun hin μ' hl' fr' => ?_, fun hin ed ne => ?_⟩
      · exact none_ok (q1 hin μ' hl' fr')
      · refine try1_er fun a' => ?_
        exact suite_ok mup_same (q2 hin _ fun b o h => by rw [mup_ne fun z => by rw [z, ne] at h; cases h]; exact h)
  | some vs =>
    walk_at "x"
    have e1 : ∀ Q', gIsN (frD (some vs)) D.non μ Q' = Q' (.bl false) μ := fun Q' => rfl
    rw [e1]
    walk_at "x"
    refine ⟨by decide, ?_⟩
    by_cases par : n % 2 = 0
    · rw [decide_eq_true par, if_pos rfl]
      unfold dMethX
      walk_at "x"
      refine ⟨⟨_, oa, no2⟩, a, dd, rows, nx, n, vs, rfl, hl, fun hin μ' hl' fr' => ?_, fun hin ed ne => ?_⟩
      · exact none_ok (q1 hin μ' hl' fr')
      · refine try1_er fun a' => ?_
        exact suite_ok mup_same (q2 hin _ fun b o h => by rw [mup_ne fun z => by rw [z, ne] at h; cases h]; exact h)
    · rw [decide_eq_false par, if_neg (by decide)]
      unfold dMethX
      walk_at "x"
      refine ⟨⟨_, oa, no2⟩, a, dd, rows, nx, n, vs, rfl, hl, fun hin μ' hl' fr' => ?_, fun hin ed ne => ?_⟩
      · exact none_ok (q1 hin μ' hl' fr')
      · refine try1_er fun a' => ?_
        exact suite_ok mup_same (q2 hin _ fun b o h => by rw [mup_ne fun z => by rw [z, ne] at h; cases h]; exact h)
end
end K21

namespace K21
open PySem PySem.Spec PyProof.Rows L2 Dl
local macro_rules | `(tactic| walk_at "dd") => `(tactic| try simp only [dSeq, dNext, dRet, dIf, dAsg, dPar, dName, dGTup, dGCons, dGNil, dOp, dVar, slot, dC, dB, dAndT, dOrT, dNotT, dIfE, dAnd, dOr, dTup, dLst, dCons, dNil, dCall, dCallK, dCB, dUn, dSl, dNo, dSome, startD, dM0,
  gEq_int, gNe_int, gEq_bl, gEq_str, gNe_str, gLt_int, gGt_int, gLe_int, gGe_int, gAdd_int, gSub_int, gMul_int, gMod_int, gDiv_int, gPow_int, gNeg_int, gNot_bl, gIs_bl, gIx_t0, gIx_t1, gIx_t2, gLen_l, gLen_t, gSl_l, gSl_sq, gSl_t, gRev_l, gRev_t, gRevM_l, gList_l, gList_sq, gList_t, gMax2_int, gRepr_l, gRepr_t,
  List.map, List.replicate, List.length, List.set, List.cons_append, List.nil_append, List.append, Nat.sub, Nat.reduceSub, Nat.reduceAdd, true_and, and_true, if_true, if_false, decide_true, decide_false, Bool.not_true, Bool.not_false, Bool.false_eq_true, reduceIte])
local macro_rules | `(tactic| walk_at "d0") => `(tactic| try simp only [startD, List.map, List.replicate, List.length, List.cons_append, List.nil_append, List.append, Nat.sub, Nat.reduceSub, Nat.reduceAdd])
local macro_rules | `(tactic| walk_at "dx") => `(tactic| try simp only [↓s_seq, ↓s_next, ↓s_brk, ↓s_cnt, ↓s_retN, ↓s_ret, ↓s_drop, ↓s_if, ↓s_asg, ↓s_par, ↓s_par2, ↓s_tup, ↓s_gnil, ↓s_gcons, ↓s_op, ↓s_c, ↓s_b, ↓s_bB, ↓s_andT, ↓s_orT, ↓s_notT, ↓s_ifE, ↓s_and, ↓s_or, ↓s_bAnd, ↓s_bOr, ↓s_etup, ↓s_lst, ↓s_nil, ↓s_cons, ↓s_call, ↓s_callB, ↓s_cb, ↓s_un, ↓s_m0, ↓s_len, ↓s_both, ↓s_fld, ↓s_setF, ↓s_make, ↓s_makeM, ↓s_meth, ↓s_prop, ↓s_orV, ↓s_sl, ↓s_no, ↓s_some, ↓s_bSome, ↓s_fmt, ↓s_fmtS, ↓s_fmtI, ↓s_join, ↓s_js0, ↓s_js1, ↓s_bJs, ↓s_sub, ↓s_yes, ↓p_nil, ↓v_0, ↓v_1, ↓v_2, ↓v_3, ↓v_4, ↓v_5, ↓v_6, ↓v_7, ↓v_8, ↓v_9, ↓v_10, ↓v_11, ↓v_12, ↓v_13, ↓v_14, ↓v_15, ↓v_16, ↓v_17, ↓n_0, ↓n_1, ↓n_2, ↓n_3, ↓n_4, ↓n_5, ↓n_6, ↓n_7, ↓n_8, ↓n_9, ↓n_10, ↓n_11, ↓n_12, ↓n_13, ↓n_14, ↓n_15, ↓n_16, ↓n_17, ↓p_0, ↓p_1, ↓p_2, ↓p_3, ↓p_4, ↓p_5, ↓p_6, ↓p_7, ↓ex_some, ↓ex_bl, ↓gEq_int, ↓gNe_int, ↓gEq_bl, ↓gNe_bl, ↓gEq_str, ↓gNe_str, ↓gLt_int, ↓gGt_int, ↓gLe_int, ↓gGe_int, ↓gAdd_int, ↓gAdd_str, ↓gAdd_t, ↓gAdd_l, ↓gEq_nil, ↓gNe_nil0, ↓gSub_int, ↓gMul_int, ↓gMod_int, ↓gDiv_int, ↓gPow_int, ↓gNeg_int, ↓gNot_bl, ↓gIs_bl, ↓gIx_t0, ↓gIx_t1, ↓gIx_t2, ↓gLen_l, ↓gLen_t, ↓gSl_l, ↓gSl_sq, ↓gSl_t, ↓gRev_l, ↓gRev_t, ↓gRevM_l, ↓gList_l, ↓gList_sq, ↓gList_t, ↓gMax2_int, ↓gRepr_l, ↓gRepr_t, ↓gAbs_int, ↓gDivA_int, ↓gMulW_int, ↓gStrI_int, ↓gBoolI_int, ↓gBoolI_bl, ↓gTuple_l, ↓gTuple_t, ↓gIsi_non, ↓gIsi_bl, ↓gIsi_int, ↓gIsi_str, ↓gIsi_lst, ↓gIsi_tup, ↓gIsi_obj, ↓gDun_obj, ↓gOne_obj, ↓isBl_bl, ↓isStr_str, ansB, ansO, List.length, List.cons_append, List.nil_append, List.append, Nat.reduceAdd, true_and, and_true, if_true, if_false, decide_true, decide_false, Bool.not_true, Bool.not_false, Bool.false_eq_true, reduceIte])

local macro_rules | `(tactic| walk_at "x") => `(tactic| (walk_at "dx"; repeat (simp only [↓s_nsub, ↓s_callX, ↓s_pure, ↓s_pureT, ↓s_rq, ↓s_rowA, ↓s_nnew, ↓s_bM, pick, Dl.nth, List.map_cons, List.map_nil, List.append_nil]; walk_at "dx")))

/-! ### what is shown is small -/
theorem pyL_eq (xs : List D) : pyL xs = xs.map py := pyL_map xs
def Sh (L n : Nat) (d : D) : Prop := pur d = true ∧ (py d).showable = true ∧ (py d).depth ≤ n ∧ (py d).shown.length ≤ L
def ShL (S n : Nat) (xs : List D) : Prop := purL xs = true ∧ PyData.showableAll (pyL xs) = true ∧ PyData.depthAll (pyL xs) ≤ n ∧ ((PyData.shownAll (pyL xs)).map (·.length)).sum + 2 * xs.length ≤ S
theorem Sh.mono {L L' n n' : Nat} {d : D} (h : Sh L n d) (l : L ≤ L') (m : n ≤ n') : Sh L' n' d := ⟨h.1, h.2.1, Nat.le_trans h.2.2.1 m, Nat.le_trans h.2.2.2 l⟩
theorem ShL.nil {n : Nat} : ShL 0 n [] := ⟨rfl, rfl, Nat.zero_le _, Nat.le_refl _⟩
theorem ShL.cons {L S n : Nat} {x : D} {xs : List D} (h : Sh L n x) (t : ShL S n xs) : ShL (L + 2 + S) n (x :: xs) := by
  obtain ⟨a1, a2, a3, a4⟩ := h
  obtain ⟨b1, b2, b3, b4⟩ := t
  refine ⟨by simp only [purL, a1, b1, Bool.and_self], by simp only [pyL, PyData.showableAll, a2, b2, Bool.and_self], by simp only [pyL, PyData.depthAll]; omega, ?_⟩
  simp only [pyL, PyData.shownAll, List.map_cons, List.sum_cons, List.length_cons]
  omega
theorem ShL.all {L n : Nat} : ∀ {xs : List D}, (∀ x ∈ xs, Sh L n x) → ShL (xs.length * (L + 2)) n xs
  | [], _ => by simpa using ShL.nil
  | x :: xs, h => by
    have := ShL.cons (h x List.mem_cons_self) (ShL.all fun y hy => h y (List.mem_cons_of_mem _ hy))
    rw [List.length_cons, Nat.succ_mul, Nat.add_comm]
    exact this
theorem ShL.mono {S S' n : Nat} {xs : List D} (h : ShL S n xs) (l : S ≤ S') : ShL S' n xs := ⟨h.1, h.2.1, h.2.2.1, Nat.le_trans h.2.2.2 l⟩
theorem Sh.tup {S n : Nat} {xs : List D} (h : ShL S n xs) : Sh (S + 3) (n + 1) (.tup xs) := by
  obtain ⟨b1, b2, b3, b4⟩ := h
  refine ⟨by simp only [pur, b1], by simp only [py, PyData.showable, b2], by simp only [py, PyData.depth]; omega, ?_⟩
  simp only [py, PyData.shown]
  have h1 := tupleText_len_le (PyData.shownAll (pyL xs))
  have h2 := PyData.shownAll_length (pyL xs)
  have h3 : (pyL xs).length = xs.length := by rw [pyL_eq, List.length_map]
  omega
theorem log_lt {n k : Nat} (hk : 0 < k) (h : n < 2 ^ k) : n.log2 < k := by
  by_cases z : n = 0
  · rw [z]; exact hk
  · exact (Nat.log2_lt z).mpr h
theorem Sh.int {i : Int} {k : Nat} (hk : 0 < k) (hk2 : k ≤ 150) (h : i.natAbs < 2 ^ k) : Sh (k + 1) 0 (.int i) := by
  have l := log_lt hk h
  refine ⟨rfl, by simp only [py, PyData.showable, decide_eq_true_eq]; omega, by simp [py, PyData.depth], ?_⟩
  have := int_short hk l
  unfold PyData.leavesShort at this
  exact of_decide_eq_true this
theorem Sh.shows {L n : Nat} {d : D} (h : Sh L n d) (l : L ≤ 16777216) (m : n ≤ 64) : Shows d := ⟨h.1, h.2.1, Nat.le_trans h.2.2.1 m, Nat.le_trans h.2.2.2 (by rw [sizeLine_eq]; exact l)⟩
theorem two_sh {L L' n : Nat} {a b : D} (ha : Sh L n a) (hb : Sh L' n b) : Sh (L + L' + 7) (n + 1) (.tup [a, b]) := (Sh.tup (ShL.cons ha (ShL.cons hb ShL.nil))).mono (by omega) (Nat.le_refl _)
theorem three_sh {L L' L'' n : Nat} {a b c : D} (ha : Sh L n a) (hb : Sh L' n b) (hc : Sh L'' n c) : Sh (L + L' + L'' + 9) (n + 1) (.tup [a, b, c]) := (Sh.tup (ShL.cons ha (ShL.cons hb (ShL.cons hc ShL.nil)))).mono (by omega) (Nat.le_refl _)
theorem gDIx_r {d : Addr} {kvs : List (Key × D)} {kk : Key} {y x : D} {μ : Mu} {Q : DQ} (h : μ d = some (.dK kvs)) (hk : keyD y = some kk) (hv : valD kvs kk = some x) : gDIx (.ref d) y μ Q = Q x μ := by
  refine propext ⟨fun ⟨kvs', kk', x', e, e2, e3, q⟩ => ?_, fun q => ⟨kvs, kk, x, .inl ⟨d, rfl, h⟩, hk, hv, q⟩⟩
  rcases e with ⟨c', e, h'⟩ | e
  · cases e
    rw [h] at h'
    cases h'
    rw [hk] at e2
    cases e2
    rw [hv] at e3
    cases e3
    exact q
  · cases e
theorem gDSet_r {d : Addr} {kvs : List (Key × D)} {kk : Key} {y x : D} {μ : Mu} {Q : Mu → Prop} (h : μ d = some (.dK kvs)) (hk : keyD y = some kk) : gDSet (.ref d) y x μ Q = (kvs.length < sizeLine ∧ Q (mup μ d (.dK (setD kvs kk x)))) := by
  refine propext ⟨fun ⟨c', kvs', kk', e, h', e2, l, q⟩ => ?_, fun q => ⟨d, kvs, kk, rfl, h, hk, q.1, q.2⟩⟩
  cases e
  rw [h] at h'
  cases h'
  rw [hk] at e2
  cases e2
  exact ⟨l, q⟩
def mkr (kd : Addr) (nx many : Int) : List (Key × D) := [(.inr "known", .ref kd), (.inr "next", .int nx), (.inr "many", .int many)]
theorem mkr_k {kd : Addr} {nx many : Int} : valD (mkr kd nx many) (.inr "known") = some (.ref kd) := by unfold mkr valD; simp
theorem mkr_n {kd : Addr} {nx many : Int} : valD (mkr kd nx many) (.inr "next") = some (.int nx) := by unfold mkr valD; rfl
theorem mkr_m {kd : Addr} {nx many : Int} : valD (mkr kd nx many) (.inr "many") = some (.int many) := by unfold mkr valD; rfl
theorem mkr_s {kd : Addr} {nx many m : Int} : setD (mkr kd nx many) (.inr "next") (.int m) = mkr kd m many := by unfold mkr setD; rfl
/-- a table and what the law keeps of it -/
structure TOk (cz : Cs) (μ : Mu) (a dd md kd : Addr) (many : Nat) (rows : Rows) (nx : Nat) : Prop where
  live : Live cz μ a dd rows (nx : Int)
  hm : μ md = some (.dK (mkr kd (nx : Int) (many : Int)))
  hk : μ kd = some (.dK (rows.map rk))
  ne : dd ≠ md ∧ dd ≠ kd ∧ md ≠ kd
  ok : RwOk many rows nx
  nb : nx ≤ 60
  m1 : 1 ≤ many ∧ many ≤ 3
theorem TOk.ext {cz : Cs} {μ μ' : Mu} {a dd md kd : Addr} {many nx : Nat} {rows : Rows} (h : TOk cz μ a dd md kd many rows nx) (e : ∀ b o, b ∈ [a, dd, md, kd] → μ b = some o → μ' b = some o) : TOk cz μ' a dd md kd many rows nx :=
  ⟨⟨e _ _ (by simp) h.live.ha, e _ _ (by simp) h.live.hd, h.live.nd, h.live.few⟩, e _ _ (by simp) h.hm, e _ _ (by simp) h.hk, h.ne, h.ok, h.nb, h.m1⟩
theorem int_sh {v : Int} (h : v.natAbs ≤ 1000000000) : Sh 31 0 (.int v) := Sh.int (by decide) (by decide) (by omega)
theorem num_sh {v : Int} {n : Nat} (h : 0 ≤ v ∧ v < (n : Int)) (hn : n ≤ 60) : Sh 8 1 (.int v) := (Sh.int (k := 7) (by decide) (by decide) (by omega)).mono (by decide) (by decide)
theorem row_sh {r : Int × List Int} {m n : Nat} (h : 0 ≤ r.1 ∧ r.1 < (n : Int)) (hn : n ≤ 60) (hv : Sml m r.2) (hm : m ≤ 3) : Sh 120 2 (encR r) := by
  have hl : ShL (r.2.length * 33) 0 (r.2.map D.int) := by
    have := ShL.all (L := 31) (n := 0) (xs := r.2.map D.int) fun x hx => by
      obtain ⟨v, hv', rfl⟩ := List.mem_map.mp hx
      exact int_sh (hv.2 v hv')
    rwa [List.length_map] at this
  have h2 := Sh.tup hl
  have := hv.1
  exact (two_sh (num_sh h hn) h2).mono (by omega) (by decide)
theorem rows_shows {m n : Nat} {rs : Rows} (h : ∀ r ∈ rs, (0 ≤ r.1 ∧ r.1 < (n : Int)) ∧ Sml m r.2) (hn : n ≤ 60) (hm : m ≤ 3) (hl : rs.length ≤ 64) : Shows (.tup (rs.map encR)) := by
  have := ShL.all (L := 120) (n := 2) (xs := rs.map encR) fun x hx => by
    obtain ⟨r, hr, rfl⟩ := List.mem_map.mp hx
    exact row_sh (h r hr).1 hn (h r hr).2 hm
  refine (Sh.tup this).shows ?_ (by decide)
  rw [List.length_map]
  omega
theorem wipe5 {a b c d e : Option D} : wipeD [a, b, c, d, e] [4] = [a, b, c, d, none] := rfl
theorem sorted_same {ns ms ks : List Int} (h1 : ns.Perm ks) (h2 : ns.Pairwise (· ≤ ·)) (h3 : ms.Pairwise (· < ·)) (h4 : ∀ k, k ∈ ms ↔ k ∈ ks) (nd : ks.Nodup) : ns = ms := by
  have nm : ms.Nodup := h3.imp fun h e => by omega
  have p : ns.Perm ms := (List.perm_ext_iff_of_nodup (h1.nodup_iff.mpr nd) nm).mpr fun k => by rw [h4]; exact h1.mem_iff
  exact p.eq_of_pairwise (le := (· ≤ ·)) (fun a b _ _ x y => by omega) h2 (h3.imp fun h => by omega)
section
variable {P : Program} {w : World} {K : PySem.W.Frag} {mg : Str → Option Value} {base : Heap} {f : Addr} {fd : FuncData} {cz : Cs}
def sp_alike (cz : Cs) : SpX := fun ds μ Q _ => ∃ (a dd md kd : Addr) (many : Nat) (rows : Rows) (nx : Nat), ds = [.ref a, .ref md] ∧ TOk cz μ a dd md kd many rows nx ∧ ∀ μ', Ext μ μ' → Q (.bl true) μ'
theorem ok__law_alike (T : Txt mg K cz) (hc : Hc K cz) (hm : Hm P w K mg base cz)
    (F : Fun K "_law_alike" "_law_alike" s__law_alike f fd) : FnG P w K mg base (CX P w) 3 f fd ["_law_table", "_law_model"] (upX K (sp_alike cz)) := by
  obtain ⟨cl_LiveTable, na_LiveTable_values_by_number, na_LiveTable_next_number, nf_NoRow_name, nf_NoRow_number, xm_NoRow, xf_NoRow, ex_NoRow, ki_NoRow_WakeError, ki_NoRow_ValueError, ki_NoRow_NoTable⟩ := hc
  obtain ⟨k_LiveTable_2, k_LiveTable_0_following_rows, k_LiveTable_0, p_rows, d___len__, d___contains__, v_put, m_change_2, m_change_0_values_number, m_drop_1, m_drop_0_number⟩ := hm
  refine okX F sc__law_alike (fun ⟨_, _, _, _, _, _, _, e, _⟩ => by rw [e]; rfl) ?_
  rintro X G Ed ⟨cdv, A, outer, s, H, E, rfl⟩ hgu hr wx hp
  refine ⟨_, (ds_cons (ds_set (i := 2) sc__law_alike.nd (pd_dix (by exact hr) (pd_var 1) pd_str))
      (ds_cons (ds_set (i := 3) sc__law_alike.nd (pd_tuple T.tuple (pd_lc [("_law_place", 4)] rfl sc__law_alike.nd (di_row (pd_sortedSetD rfl T.sorted T.set (pd_var 2))) (blkOk_by (by kernel_rfl)) (fun _ _ _ _ _ => (cg_name (i := 4) sc__law_alike.nd)) (fun _ _ _ _ _ => pdts_nil) (fun _ _ _ _ _ => (pd_tup (pda_cons (pd_var 4) (pda_cons (pd_dix (by exact hr) (pd_var 2) (pd_var 4)) pda_nil)))))))
      (ds_cons (ds_if (pt_w (pw_o (pt_ne (by exact hr) (pd_reprX (by exact hr) (by exact hgu) T.repr (by decide +kernel) (pd_pr p_rows hr hgu (pd_var 0))) (pd_reprX (by exact hr) (by exact hgu) T.repr (by decide +kernel) (pd_var 3))) (pw_o1 (pt_ne (by exact hr) (pd_lenO d___len__ T.len hr hgu (pd_var 0)) (pd_lenK T.len (pd_var 2)))))) (ds_one (ds_ret pd_bl)) ds_nil)
      (ds_cons (ds_for hp rfl (di_range1 T.range (pda_cons (pd_add (pd_dix (by exact hr) (pd_var 1) pd_str) pd_int) pda_nil)) (dg_name (i := 4) sc__law_alike.nd) (ds_one (ds_if (pt_ne (by exact hr) (pd_inO d___contains__ hr hgu (pd_var 4) (pd_var 0)) (pd_din (by exact hr) (pd_var 4) (pd_var 2))) (ds_one (ds_ret pd_bl)) ds_nil)))
      (ds_one (ds_ret pd_bl)))))), ?_⟩
  rintro ds μ Q ⟨a, dd, md, kd, many, rows, nx, rfl, ht, q⟩
  walk_at "d0"
  walk_at "x"
  rw [gDIx_r ht.hm rfl mkr_k]
  unfold dLc dRowA
  walk_at "x"
  refine ⟨.ref kd, _, rows.map (·.1), rfl, .inl ⟨kd, rfl, ht.hk⟩, keys_rk, by rw [List.length_map]; exact ht.live.few, fun ms pw mm => ?_⟩
  refine ⟨ms.map .int, rfl, fun E nE => ⟨fun i acc μ' => acc = (ms.take i).map (fun n => encR (n, (lk rows n).getD [])) ∧ ∀ b, b ≠ E → μ' b = μ b, ⟨rfl, fun b h => mup_ne h⟩, fun _ _ _ _ => rfl, ?_, ?_⟩⟩
  · rintro i x acc μ' hx ⟨rfl, oth⟩
    rw [List.getElem?_map] at hx
    obtain ⟨n, hn, rfl⟩ := Option.map_eq_some_iff.mp hx
    have et : ms.take (i + 1) = ms.take i ++ [n] := by rw [List.take_succ, hn]; rfl
    have hin : n ∈ rows.map (·.1) := (mm n).mp (List.mem_of_getElem? hn)
    obtain ⟨vs, ev⟩ := lk_some_of_mem hin
    have nek : kd ≠ E := fun z => by rw [← z, ht.hk] at nE; cases nE
    have hk' : μ' kd = some (.dK (rows.map rk)) := (oth kd nek).trans ht.hk
    simp only [wipe5]
    walk_at "x"
    refine ⟨_, .inl n, .tup (vs.map .int), .inl ⟨kd, rfl, hk'⟩, rfl, by rw [val_rk, ev]; rfl, ?_⟩
    walk_at "x"
    refine ⟨sz (by decide), ?_, ?_, oth⟩
    · rw [List.length_map, List.length_take]
      have : ms.length ≤ 64 := by
        have p : ms.Perm (rows.map (·.1)) := (List.perm_ext_iff_of_nodup (pw.imp fun h e => by omega) ht.live.nd).mpr mm
        have := p.length_eq
        rw [List.length_map] at this
        have := ht.live.few
        omega
      exact Nat.lt_of_lt_of_le (show _ < 65 by omega) (sz (by decide))
    · rw [et, List.map_append, List.map_singleton, ev]
      rfl
  · rintro acc μ1 ⟨rfl, oth⟩
    rw [List.length_map, List.take_length]
    have ex1 : Ext μ (mdel μ1 E) := fun b o h => by
      have : b ≠ E := fun z => by rw [z, nE] at h; cases h
      rw [mdel_ne this, oth b this]
      exact h
    have ht1 : TOk cz (mdel μ1 E) a dd md kd many rows nx := ht.ext fun b o _ h => ex1 b o h
    revert ht1 ex1
    generalize mdel μ1 E = μ2
    intro ex1 ht1
    walk_at "x"
    refine ⟨⟨tfs dd (nx : Int), by simp only [oin, ht1.live.ha]⟩, a, dd, rows, _, rfl, ht1.live, fun μ3 ns pm pw2 ex2 => ?_⟩
    have e := sorted_same pm pw2 pw mm ht.live.nd
    subst e
    have ht2 : TOk cz μ3 a dd md kd many rows nx := ht1.ext fun b o _ h => ex2 b o h
    have shw : Shows (.tup (ns.map fun n => encR (n, (lk rows n).getD []))) := by
      have h := rows_shows (n := nx) (m := many) (rs := ns.map fun n => (n, (lk rows n).getD [])) (fun r hr => ?_) ht.nb ht.m1.2 ?_
      · rw [List.map_map] at h; exact h
      · obtain ⟨n, hn, rfl⟩ := List.mem_map.mp hr
        obtain ⟨vs, ev⟩ := lk_some_of_mem ((mm n).mp hn)
        have := ht.ok.1 (n, vs) (mem_of_lk ev)
        rw [ev]
        exact this
      · rw [List.length_map, pm.length_eq, List.length_map]; exact Nat.le_of_lt ht.live.few
    refine ⟨_, rfl, .inl ⟨shw, ?_⟩⟩
    refine ⟨_, rfl, .inl ⟨shw, ?_⟩⟩
    walk_at "x"
    have oa : oin μ3 (.ref a) = some (cz.LiveTable, tfs dd (nx : Int)) := by simp only [oin, ht2.live.ha]
    show (∃ fs, oin μ3 (.ref a) = some (cz.LiveTable, fs)) ∧ sp_len cz [.ref a] μ3 (isLen · · _)
    refine ⟨⟨_, oa⟩, a, dd, rows, _, rfl, ht2.live, rows.length, rfl, by omega, ?_, ?_⟩
    · have := ht.live.few
      omega
    refine ⟨.ref kd, _, rfl, .inl ⟨kd, rfl, ht2.hk⟩, ?_⟩
    rw [List.length_map]
    walk_at "x"
    try simp only [decide_true, Bool.not_true, Bool.false_eq_true, if_false]
    have e2 : ((nx : Int) + 2) = ((nx + 2 : Nat) : Int) := by omega
    unfold dFor dRng1
    walk_at "x"
    rw [gDIx_r ht2.hm rfl mkr_n]
    walk_at "x"
    rw [e2]
    have nb := ht.nb
    refine ⟨by omega, by omega, fun i ρ μ' => ∃ x4, Ext μ μ' ∧ ρ = [some (.ref a), some (.ref md), some (.ref kd), some (D.tup (ns.map fun n => encR (n, (lk rows n).getD []))), x4], ⟨_, fun b o h => ex2 b o (ex1 b o h), rfl⟩, fun _ _ _ _ => trivial, ?_, ?_⟩
    · rintro i x ρ μ4 hx ⟨x4, ex4, rfl⟩
      obtain ⟨hi, rfl⟩ := rng_at hx
      have ht4 : TOk cz μ4 a dd md kd many rows nx := ht.ext fun b o _ h => ex4 b o h
      have oa4 : oin μ4 (.ref a) = some (cz.LiveTable, tfs dd (nx : Int)) := by simp only [oin, ht4.live.ha]
      walk_at "x"
      refine ⟨⟨_, oa4⟩, a, dd, rows, _, _, rfl, ht4.live, _, rfl, ?_⟩
      refine ⟨_, .inl (i : Int), .inl ⟨kd, rfl, ht4.hk⟩, rfl, ?_⟩
      rw [has_rk]
      walk_at "x"
      try simp only [decide_true, Bool.not_true, Bool.false_eq_true, if_false]
      exact ⟨_, ex4, rfl⟩
    · rintro ρ μ4 ⟨x4, ex4, rfl⟩
      exact q _ ex4
end
end K21

namespace K21
open PySem PySem.Spec PyProof.Rows L2 Dl
local macro_rules | `(tactic| walk_at "dd") => `(tactic| try simp only [dSeq, dNext, dRet, dIf, dAsg, dPar, dName, dGTup, dGCons, dGNil, dOp, dVar, slot, dC, dB, dAndT, dOrT, dNotT, dIfE, dAnd, dOr, dTup, dLst, dCons, dNil, dCall, dCallK, dCB, dUn, dSl, dNo, dSome, startD, dM0,
  gEq_int, gNe_int, gEq_bl, gEq_str, gNe_str, gLt_int, gGt_int, gLe_int, gGe_int, gAdd_int, gSub_int, gMul_int, gMod_int, gDiv_int, gPow_int, gNeg_int, gNot_bl, gIs_bl, gIx_t0, gIx_t1, gIx_t2, gLen_l, gLen_t, gSl_l, gSl_sq, gSl_t, gRev_l, gRev_t, gRevM_l, gList_l, gList_sq, gList_t, gMax2_int, gRepr_l, gRepr_t,
  List.map, List.replicate, List.length, List.set, List.cons_append, List.nil_append, List.append, Nat.sub, Nat.reduceSub, Nat.reduceAdd, true_and, and_true, if_true, if_false, decide_true, decide_false, Bool.not_true, Bool.not_false, Bool.false_eq_true, reduceIte])
local macro_rules | `(tactic| walk_at "d0") => `(tactic| try simp only [startD, List.map, List.replicate, List.length, List.cons_append, List.nil_append, List.append, Nat.sub, Nat.reduceSub, Nat.reduceAdd])
local macro_rules | `(tactic| walk_at "dx") => `(tactic| try simp only [↓s_seq, ↓s_next, ↓s_brk, ↓s_cnt, ↓s_retN, ↓s_ret, ↓s_drop, ↓s_if, ↓s_asg, ↓s_par, ↓s_par2, ↓s_tup, ↓s_gnil, ↓s_gcons, ↓s_op, ↓s_c, ↓s_b, ↓s_bB, ↓s_andT, ↓s_orT, ↓s_notT, ↓s_ifE, ↓s_and, ↓s_or, ↓s_bAnd, ↓s_bOr, ↓s_etup, ↓s_lst, ↓s_nil, ↓s_cons, ↓s_call, ↓s_callB, ↓s_cb, ↓s_un, ↓s_m0, ↓s_len, ↓s_both, ↓s_fld, ↓s_setF, ↓s_make, ↓s_makeM, ↓s_meth, ↓s_prop, ↓s_orV, ↓s_sl, ↓s_no, ↓s_some, ↓s_bSome, ↓s_fmt, ↓s_fmtS, ↓s_fmtI, ↓s_join, ↓s_js0, ↓s_js1, ↓s_bJs, ↓s_sub, ↓s_yes, ↓p_nil, ↓v_0, ↓v_1, ↓v_2, ↓v_3, ↓v_4, ↓v_5, ↓v_6, ↓v_7, ↓v_8, ↓v_9, ↓v_10, ↓v_11, ↓v_12, ↓v_13, ↓v_14, ↓v_15, ↓v_16, ↓v_17, ↓n_0, ↓n_1, ↓n_2, ↓n_3, ↓n_4, ↓n_5, ↓n_6, ↓n_7, ↓n_8, ↓n_9, ↓n_10, ↓n_11, ↓n_12, ↓n_13, ↓n_14, ↓n_15, ↓n_16, ↓n_17, ↓p_0, ↓p_1, ↓p_2, ↓p_3, ↓p_4, ↓p_5, ↓p_6, ↓p_7, ↓ex_some, ↓ex_bl, ↓gEq_int, ↓gNe_int, ↓gEq_bl, ↓gNe_bl, ↓gEq_str, ↓gNe_str, ↓gLt_int, ↓gGt_int, ↓gLe_int, ↓gGe_int, ↓gAdd_int, ↓gAdd_str, ↓gAdd_t, ↓gAdd_l, ↓gEq_nil, ↓gNe_nil0, ↓gSub_int, ↓gMul_int, ↓gMod_int, ↓gDiv_int, ↓gPow_int, ↓gNeg_int, ↓gNot_bl, ↓gIs_bl, ↓gIx_t0, ↓gIx_t1, ↓gIx_t2, ↓gLen_l, ↓gLen_t, ↓gSl_l, ↓gSl_sq, ↓gSl_t, ↓gRev_l, ↓gRev_t, ↓gRevM_l, ↓gList_l, ↓gList_sq, ↓gList_t, ↓gMax2_int, ↓gRepr_l, ↓gRepr_t, ↓gAbs_int, ↓gDivA_int, ↓gMulW_int, ↓gStrI_int, ↓gBoolI_int, ↓gBoolI_bl, ↓gTuple_l, ↓gTuple_t, ↓gIsi_non, ↓gIsi_bl, ↓gIsi_int, ↓gIsi_str, ↓gIsi_lst, ↓gIsi_tup, ↓gIsi_obj, ↓gDun_obj, ↓gOne_obj, ↓isBl_bl, ↓isStr_str, ansB, ansO, List.length, List.cons_append, List.nil_append, List.append, Nat.reduceAdd, true_and, and_true, if_true, if_false, decide_true, decide_false, Bool.not_true, Bool.not_false, Bool.false_eq_true, reduceIte])

local macro_rules | `(tactic| walk_at "x") => `(tactic| (walk_at "dx"; repeat (simp only [↓s_nsub, ↓s_callX, ↓s_pure, ↓s_pureT, ↓s_rq, ↓s_rowA, ↓s_nnew, ↓s_bM, pick, Dl.nth, List.map_cons, List.map_nil, List.append_nil]; walk_at "dx")))

def FrT (F : List Addr) (μ μ' : Mu) : Prop := ∀ b o, μ b = some o → b ∉ F → μ' b = some o
section
variable {cz : Cs} {μ μ' : Mu} {a dd md kd d c : Addr} {many nx n : Nat} {rows : Rows}
/-- the deck is none of the table's things -/
theorem deck_apart (hd : Deck μ d c n) (ht : TOk cz μ a dd md kd many rows nx) : ∀ b ∈ [a, dd, md, kd], b ≠ d ∧ b ≠ c := by
  obtain ⟨cells, m, t, h1, h2, _⟩ := hd
  have key : ∀ {b : Addr} {o : Ob}, μ b = some o → (∀ xs, o ≠ .lst xs) → b ≠ d ∧ b ≠ c := fun {b o} h n => ⟨fun z => by rw [z, h1] at h; cases h; exact n _ rfl, fun z => by rw [z, h2] at h; cases h; exact n _ rfl⟩
  intro b hb
  simp only [List.mem_cons, List.not_mem_nil, or_false] at hb
  rcases hb with rfl | rfl | rfl | rfl
  · exact key ht.live.ha nofun
  · exact key ht.live.hd nofun
  · exact key ht.hm nofun
  · exact key ht.hk nofun
theorem TOk.frm (ht : TOk cz μ a dd md kd many rows nx) (hd : Deck μ d c n) (h : Frm d c μ μ') : TOk cz μ' a dd md kd many rows nx := ht.ext fun b o hb e => h b o e (deck_apart hd ht b hb).1 (deck_apart hd ht b hb).2
theorem TOk.but (ht : TOk cz μ a dd md kd many rows nx) (hd : Deck μ d c n) (h : But d c μ μ') : TOk cz μ' a dd md kd many rows nx := ht.frm hd (Frm.refl.but h)
theorem TOk.nes (ht : TOk cz μ a dd md kd many rows nx) : a ≠ dd ∧ a ≠ md ∧ a ≠ kd ∧ dd ≠ md ∧ dd ≠ kd ∧ md ≠ kd := by
  refine ⟨ht.live.ne, fun e => ?_, fun e => ?_, ht.ne⟩
  · have h := ht.live.ha
    rw [e, ht.hm] at h
    cases h
  · have h := ht.live.ha
    rw [e, ht.hk] at h
    cases h
theorem nodup_le {α : Type} [DecidableEq α] : ∀ {l V : List α}, l.Nodup → (∀ x ∈ l, x ∈ V) → l.length ≤ V.length
  | [], V, _, _ => Nat.zero_le _
  | x :: l, V, hn, hs => by
    rw [List.nodup_cons] at hn
    have hx := hs x List.mem_cons_self
    have := nodup_le (l := l) (V := V.erase x) hn.2 fun y hy => (List.mem_erase_of_ne fun (e : y = x) => hn.1 (e ▸ hy)).mpr (hs y (List.mem_cons_of_mem _ hy))
    rw [List.length_erase_of_mem hx] at this
    have : 0 < V.length := List.length_pos_of_mem hx
    simp only [List.length_cons]
    omega
theorem rw_few (h : RwOk many rows nx) (hn : nx ≤ 60) : rows.length ≤ nx := by
  have : ∀ x ∈ rows.map (fun r => r.1.toNat), x ∈ List.range nx := fun x hx => by
    obtain ⟨r, hr, rfl⟩ := List.mem_map.mp hx
    have := (h.1 r hr).1
    rw [List.mem_range]
    omega
  have nd : (rows.map fun r => r.1.toNat).Nodup := by
    have h2 := h.2
    rw [List.nodup_iff_pairwise_ne, List.pairwise_map] at h2 ⊢
    refine h2.imp_of_mem fun {x y} hx hy ne e => ne ?_
    have h1 := (h.1 x hx).1
    have h3 := (h.1 y hy).1
    omega
  have := nodup_le nd this
  rwa [List.length_map, List.length_range] at this
end
section
variable {P : Program} {w : World} {K : PySem.W.Frag} {mg : Str → Option Value} {base : Heap} {f : Addr} {fd : FuncData} {cz : Cs}
theorem rw_put {many nx : Nat} {rows : Rows} {vs : List Int} (h : RwOk many rows nx) (hv : Sml many vs) : RwOk many (rows ++ [((nx : Int), vs)]) (nx + 1) := by
  refine ⟨fun r hr => ?_, ?_⟩
  · rcases List.mem_append.mp hr with z | z
    · have := (h.1 r z).1
      exact ⟨⟨this.1, by omega⟩, (h.1 r z).2⟩
    · rw [List.mem_singleton.mp z]
      exact ⟨⟨by show (0 : Int) ≤ nx; omega, by show (nx : Int) < _; omega⟩, hv⟩
  · rw [List.map_append, List.nodup_append]
    refine ⟨h.2, by simp, fun x hx y hy e => ?_⟩
    obtain ⟨r, hr, rfl⟩ := List.mem_map.mp hx
    have := (h.1 r hr).1.2
    simp only [List.map_cons, List.map_nil, List.mem_singleton] at hy
    omega
theorem nx_new {many nx : Nat} {rows : Rows} (h : RwOk many rows nx) : (nx : Int) ∉ rows.map (·.1) := fun z => by
  obtain ⟨r, hr, e⟩ := List.mem_map.mp z
  have := (h.1 r hr).1.2
  omega
theorem put_tail {d a dd md kd : Addr} {many nx : Nat} {rows : Rows} {vs : List Int} {μ μ2 : Mu} {Q : DQ} (ht : TOk cz μ a dd md kd many rows nx) (hx : nx + 1 ≤ 60) (hl : Live cz μ2 a dd (rows ++ [((nx : Int), vs)]) ((nx : Int) + 1)) (oth : ∀ b, b ≠ a → b ≠ dd → μ2 b = μ b) (hv : Sml many vs)
    (q : ∀ μ', TOk cz μ' a dd md kd many (rows ++ [((nx : Int), vs)]) (nx + 1) → (∀ b, b ∉ [a, dd, md, kd] → μ' b = μ b) → Q (.bl true) μ') :
    dDPut (dVar 2) (dC (.str "next")) (dOp gAdd (dVar 4) (dC (.int 1))) { nx := dSeq (dDPut (dOp gDIx (dVar 2) (dC (.str "known"))) (dVar 4) (dVar 3)) (dRet (dOp gEq (dCB gReprX (dCons (dVar 5) dNil)) (dCB gReprX (dCons (dVar 4) dNil)))) { nx := fun _ μ => Q .non μ, rt := Q }, rt := Q }
      [some (.ref d), some (.ref a), some (.ref md), some (.tup (vs.map .int)), some (.int (nx : Int)), some (.int (nx : Int))] μ2 := by
  obtain ⟨n1, n2, n3, n4, n5, n6⟩ := ht.nes
  have hm2 : μ2 md = some (.dK (mkr kd (nx : Int) (many : Int))) := (oth md n2.symm n4.symm).trans ht.hm
  have hk2 : μ2 kd = some (.dK (rows.map rk)) := (oth kd n3.symm n5.symm).trans ht.hk
  have few := rw_few ht.ok ht.nb
  unfold dDPut
  walk_at "x"
  rw [gDSet_r hm2 rfl]
  refine ⟨Nat.lt_of_lt_of_le (show 3 < 100 by decide) (sz (by decide)), ?_⟩
  rw [mkr_s]
  have e : ((nx : Int) + 1) = ((nx + 1 : Nat) : Int) := by omega
  rw [e] at hl ⊢
  walk_at "x"
  rw [gDIx_r (mup_same) rfl mkr_k]
  walk_at "x"
  rw [gDSet_r ((mup_ne n6.symm).trans hk2) rfl, set_new (nx_new ht.ok)]
  refine ⟨by rw [List.length_map]; exact Nat.lt_of_lt_of_le (show _ < 100 by omega) (sz (by decide)), ?_⟩
  have sn : Shows (.int (nx : Int)) := (num_sh (v := (nx : Int)) (n := nx + 1) ⟨by omega, by omega⟩ hx).shows (by decide) (by decide)
  walk_at "x"
  refine ⟨_, rfl, .inl ⟨sn, _, rfl, .inl ⟨sn, ?_⟩⟩⟩
  show gEq (.str _) (.str _) _ _
  rw [gEq_str]
  simp only [decide_true]
  refine q _ ⟨⟨?_, ?_, hl.nd, hl.few⟩, ?_, ?_, ht.ne, rw_put ht.ok hv, hx, ht.m1⟩ fun b hb => ?_
  · rw [mup_ne n3, mup_ne n2]; exact hl.ha
  · rw [mup_ne n5, mup_ne n4]; exact hl.hd
  · rw [mup_ne n6, mup_same]
  · rw [mup_same]
  · simp only [List.mem_cons, List.not_mem_nil, or_false, not_or] at hb
    rw [mup_ne hb.2.2.2, mup_ne hb.2.2.1, oth b hb.1 hb.2.1]
def sp_lput (cz : Cs) : SpX := fun ds μ Q _ => ∃ (d c a dd md kd : Addr) (many n : Nat) (rows : Rows) (nx : Nat), ds = [.ref d, .ref a, .ref md] ∧ Deck μ d c n ∧ n < 700000000 ∧ TOk cz μ a dd md kd many rows nx ∧ nx + 1 ≤ 60 ∧
  ∀ μ' rows', TOk cz μ' a dd md kd many rows' (nx + 1) → Deck μ' d c (n + 10) → FrT [d, c, a, dd, md, kd] μ μ' → Q (.bl true) μ'
theorem ok__law_put (T : Txt mg K cz) (hm : Hm P w K mg base cz) (q__law_values_2 : ClX P w K mg base 3 "_law_values" (sp_values) 2 [] [] [0, 1])
    (F : Fun K "_law_put" "_law_put" s__law_put f fd) : FnG P w K mg base (CX P w) 4 f fd ["_law_deck_here", "_law_table", "_law_model"] (upX K (sp_lput cz)) := by
  obtain ⟨k_LiveTable_2, k_LiveTable_0_following_rows, k_LiveTable_0, p_rows, d___len__, d___contains__, v_put, m_change_2, m_change_0_values_number, m_drop_1, m_drop_0_number⟩ := hm
  refine okX F sc__law_put (fun ⟨_, _, _, _, _, _, _, _, _, _, e, _⟩ => by rw [e]; rfl) ?_
  rintro X G Ed ⟨cdv, A, outer, s, H, E, rfl⟩ hgu hr wx hp
  refine ⟨_, (ds_cons (ds_par (i := 3) (j := 4) rfl sc__law_put.nd (pda_cons (pd_cx wx0 q__law_values_2 (by exact hr) (by exact hgu) (pdc_p (pda_cons (pd_var 0) (pda_cons (pd_dix (by exact hr) (pd_var 2) pd_str) pda_nil)))) (pda_cons (pd_dix (by exact hr) (pd_var 2) pd_str) pda_nil)))
      (ds_cons (ds_if (pt_eq (by exact hr) (pd_len T.len (pd_var 3)) pd_int) (ds_one (ds_set (i := 5) sc__law_put.nd (pd_mv wx0 v_put (by exact hr) (by exact hgu) (pd_var 1) (pda_cons (pd_at (pd_var 3) pd_int) pda_nil)))) (ds_one (ds_if (pt_eq (by exact hr) (pd_len T.len (pd_var 3)) pd_int) (ds_one (ds_set (i := 5) sc__law_put.nd (pd_mv wx0 v_put (by exact hr) (by exact hgu) (pd_var 1) (pda_cons (pd_at (pd_var 3) pd_int) (pda_cons (pd_at (pd_var 3) pd_int) pda_nil))))) (ds_one (ds_set (i := 5) sc__law_put.nd (pd_mv wx0 v_put (by exact hr) (by exact hgu) (pd_var 1) (pda_cons (pd_at (pd_var 3) pd_int) (pda_cons (pd_at (pd_var 3) pd_int) (pda_cons (pd_at (pd_var 3) pd_int) pda_nil)))))))))
      (ds_cons (ds_dput hr (pd_var 2) pd_str (pd_add (pd_var 4) pd_int))
      (ds_cons (ds_dput hr (pd_dix (by exact hr) (pd_var 2) pd_str) (pd_var 4) (pd_var 3))
      (ds_one (ds_ret (pd_eq (by exact hr) (pd_reprX (by exact hr) (by exact hgu) T.repr (by decide +kernel) (pd_var 5)) (pd_reprX (by exact hr) (by exact hgu) T.repr (by decide +kernel) (pd_var 4))))))))), ?_⟩
  rintro ds μ Q ⟨d, c, a, dd, md, kd, many, n, rows, nx, rfl, hd, hn, ht, hx, q⟩
  walk_at "d0"
  walk_at "x"
  unfold dCallX
  walk_at "x"
  rw [gDIx_r ht.hm rfl mkr_m]
  walk_at "x"
  refine ⟨d, c, many, n, rfl, ht.m1.1, ht.m1.2, hd, by omega, fun μ1 vs hv hd1 fr1 => ?_⟩
  have ht1 := ht.frm hd fr1
  walk_at "x"
  rw [gDIx_r ht1.hm rfl mkr_n]
  walk_at "x"
  have no : List.lookup ("put" : Str) (tfs dd (nx : Int)) = none := by simp only [tfs, List.lookup, show (("put" : Str) == "values_by_number") = false by decide +kernel, show (("put" : Str) == "next_number") = false by decide +kernel]
  have oa : oin μ1 (.ref a) = some (cz.LiveTable, tfs dd (nx : Int)) := by simp only [oin, ht1.live.ha]
  have few := rw_few ht.ok ht.nb
  have nes := ht.nes
  have ap := deck_apart hd ht
  have fin : ∀ μ2, Live cz μ2 a dd (rows ++ [((nx : Int), vs)]) ((nx : Int) + 1) → (∀ b, b ≠ a → b ≠ dd → μ2 b = μ1 b) → dDPut (dVar 2) (dC (.str "next")) (dOp gAdd (dVar 4) (dC (.int 1))) { nx := dSeq (dDPut (dOp gDIx (dVar 2) (dC (.str "known"))) (dVar 4) (dVar 3)) (dRet (dOp gEq (dCB gReprX (dCons (dVar 5) dNil)) (dCB gReprX (dCons (dVar 4) dNil)))) { nx := fun _ μ => Q .non μ, rt := Q }, rt := Q }
      [some (.ref d), some (.ref a), some (.ref md), some (.tup (vs.map .int)), some (.int (nx : Int)), some (.int (nx : Int))] μ2 := fun μ2 hl oth => by
    refine put_tail ht1 hx hl oth hv fun μ' ht' oth' => ?_
    have dk : ∀ x ∈ [d, c], x ∉ [a, dd, md, kd] := fun x hx hm => by
      have := ap x hm
      simp only [List.mem_cons, List.not_mem_nil, or_false] at hx
      rcases hx with rfl | rfl
      · exact this.1 rfl
      · exact this.2 rfl
    refine q μ' _ ht' ((deck_keep hd1 (oth' d (dk d (by simp))) (oth' c (dk c (by simp)))).more (by omega)) fun b o h hb => ?_
    have hb' : b ∉ [a, dd, md, kd] := fun z => hb (by simp only [List.mem_cons, List.not_mem_nil, or_false] at z ⊢; exact .inr (.inr z))
    rw [oth' b hb']
    exact fr1 b o h (fun z => hb (by rw [z]; simp)) (fun z => hb (by rw [z]; simp))
  rcases (show many = 1 ∨ many = 2 ∨ many = 3 by have := ht.m1; omega) with rfl | rfl | rfl
  · obtain ⟨v1, rfl⟩ : ∃ v1, vs = [v1] := by
      match vs, hv.1 with
      | [v1], _ => exact ⟨v1, rfl⟩
    walk_at "x"
    unfold dMethV
    walk_at "x"
    refine ⟨⟨_, oa, no⟩, by decide, a, dd, rows, _, [v1], rfl, ht1.live, nx_new ht.ok, by omega, fun μ2 hl oth => fin μ2 hl oth⟩
  · obtain ⟨v1, v2, rfl⟩ : ∃ v1 v2, vs = [v1, v2] := by
      match vs, hv.1 with
      | [v1, v2], _ => exact ⟨v1, v2, rfl⟩
    walk_at "x"
    unfold dMethV
    walk_at "x"
    refine ⟨⟨_, oa, no⟩, by decide, a, dd, rows, _, [v1, v2], rfl, ht1.live, nx_new ht.ok, by omega, fun μ2 hl oth => fin μ2 hl oth⟩
  · obtain ⟨v1, v2, v3, rfl⟩ : ∃ v1 v2 v3, vs = [v1, v2, v3] := by
      match vs, hv.1 with
      | [v1, v2, v3], _ => exact ⟨v1, v2, v3, rfl⟩
    walk_at "x"
    unfold dMethV
    walk_at "x"
    refine ⟨⟨_, oa, no⟩, by decide, a, dd, rows, _, [v1, v2, v3], rfl, ht1.live, nx_new ht.ok, by omega, fun μ2 hl oth => fin μ2 hl oth⟩
theorem eq_t1 {x : Str} {μ : Mu} {Q : DQ} (q : Q (.bl true) μ) : gEq (.tup [.str x]) (.tup [.str x]) μ Q := by
  unfold gEq gD CEq
  simp [vw_tup, pur, purL, py, pyL, PyData.plain, PyData.plainAll, PyData.depth, PyData.depthAll, PyData.eqv, PyData.eqvAll]
  exact q
theorem eq_t2 {x : Str} {n : Int} {μ : Mu} {Q : DQ} (q : Q (.bl true) μ) : gEq (.tup [.str x, .int n]) (.tup [.str x, .int n]) μ Q := by
  unfold gEq gD CEq
  simp [vw_tup, pur, purL, py, pyL, PyData.plain, PyData.plainAll, PyData.depth, PyData.depthAll, PyData.eqv, PyData.eqvAll]
  exact q
theorem rw_set {many nx : Nat} {rows : Rows} {n : Int} {vs : List Int} (h : RwOk many rows nx) (hv : Sml many vs) : RwOk many (putR n vs rows) nx := by
  refine ⟨fun r hr => ?_, by rw [putR_keys]; exact h.2⟩
  obtain ⟨r0, hr0, e⟩ := List.mem_map.mp hr
  have h0 := h.1 r0 hr0
  split at e
  · rename_i z
    rw [← e]
    exact ⟨by rw [← z]; exact h0.1, hv⟩
  · rw [← e]; exact h0
theorem rw_out {many nx : Nat} {rows : Rows} {p : Int × List Int → Bool} (h : RwOk many rows nx) : RwOk many (rows.filter p) nx :=
  ⟨fun r hr => h.1 r (List.mem_filter.mp hr).1, h.2.sublist (List.Sublist.map _ List.filter_sublist)⟩
theorem live_few {μ : Mu} {a dd : Addr} {rows : Rows} {nx : Int} (h : Live cz μ a dd rows nx) : (rows.map rk).length < sizeLine := by
  rw [List.length_map]; exact Nat.lt_of_lt_of_le (show _ < 64 from h.few) (sz (by decide))
def sp_deed (cz : Cs) : SpX := fun ds μ Q _ => ∃ (d c a dd md kd : Addr) (many n : Nat) (rows : Rows) (nx : Nat), ds = [.ref d, .ref a, .ref md] ∧ Deck μ d c n ∧ n < 600000000 ∧ TOk cz μ a dd md kd many rows nx ∧ nx + 1 ≤ 60 ∧
  ∀ μ' rows' nx', nx' ≤ nx + 1 → TOk cz μ' a dd md kd many rows' nx' → Deck μ' d c (n + 20) → FrT [d, c, a, dd, md, kd] μ μ' → Q (.bl true) μ'
theorem ok__law_deed (T : Txt mg K cz) (q__law_draw_2 : ClX P w K mg base 1 "_law_draw" (sp_dr) 2 [] [] [0, 1]) (q__law_put_3 : ClX P w K mg base 4 "_law_put" (sp_lput cz) 3 [] [] [0, 1, 2]) (q__law_refused_3 : ClX P w K mg base 4 "_law_refused" (sp_refused cz) 3 [] [] [0, 1, 2]) (q__law_values_2 : ClX P w K mg base 3 "_law_values" (sp_values) 2 [] [] [0, 1])
    (F : Fun K "_law_deed" "_law_deed" s__law_deed f fd) : FnG P w K mg base (CX P w) 5 f fd ["_law_deck_here", "_law_table", "_law_model"] (upX K (sp_deed cz)) := by
  refine okX F sc__law_deed (fun ⟨_, _, _, _, _, _, _, _, _, _, e, _⟩ => by rw [e]; rfl) ?_
  rintro X G Ed ⟨cdv, A, outer, s, H, E, rfl⟩ hgu hr wx hp
  refine ⟨_, (ds_cons (ds_par (i := 3) (j := 4) rfl sc__law_deed.nd (pda_cons (pd_cx wx0 q__law_draw_2 (by exact hr) (by exact hgu) (pdc_p (pda_cons (pd_var 0) (pda_cons pd_int pda_nil)))) (pda_cons (pd_dix (by exact hr) (pd_var 2) pd_str) pda_nil)))
      (ds_cons (ds_if (pt_lt (by exact hr) (pd_var 3) pd_int) (ds_one (ds_ret (pd_cx wx0 q__law_put_3 (by exact hr) (by exact hgu) (pdc_p (pda_cons (pd_var 0) (pda_cons (pd_var 1) (pda_cons (pd_var 2) pda_nil))))))) ds_nil)
      (ds_cons (ds_set (i := 5) sc__law_deed.nd (pd_cx wx0 q__law_draw_2 (by exact hr) (by exact hgu) (pdc_p (pda_cons (pd_var 0) (pda_cons (pd_add (pd_dix (by exact hr) (pd_var 2) pd_str) pd_int) pda_nil)))))
      (ds_cons (ds_if (pt_lt (by exact hr) (pd_var 3) pd_int) (ds_cons (ds_set (i := 6) sc__law_deed.nd (pd_cx wx0 q__law_values_2 (by exact hr) (by exact hgu) (pdc_p (pda_cons (pd_var 0) (pda_cons (pd_dix (by exact hr) (pd_var 2) pd_str) pda_nil)))))
      (ds_cons (ds_set (i := 7) sc__law_deed.nd (pd_cx wx0 q__law_refused_3 (by exact hr) (by exact hgu) (pdc_p (pda_cons (pd_var 1) (pda_cons (pd_var 5) (pda_cons (pd_var 6) pda_nil))))))
      (ds_cons (ds_set (i := 8) sc__law_deed.nd (pd_if (pt_din (by exact hr) (pd_var 5) (pd_var 4)) (pd_tup (pda_cons pd_str pda_nil)) (pd_tup (pda_cons pd_str (pda_cons (pd_var 5) pda_nil)))))
      (ds_cons (ds_if (pt_din (by exact hr) (pd_var 5) (pd_var 4)) (ds_one (ds_dput hr (pd_var 4) (pd_var 5) (pd_var 6))) ds_nil)
      (ds_one (ds_ret (pd_eq (by exact hr) (pd_var 7) (pd_var 8)))))))) ds_nil)
      (ds_cons (ds_set (i := 7) sc__law_deed.nd (pd_cx wx0 q__law_refused_3 (by exact hr) (by exact hgu) (pdc_p (pda_cons (pd_var 1) (pda_cons (pd_var 5) (pda_cons pd_non pda_nil))))))
      (ds_cons (ds_if (pt_din (by exact hr) (pd_var 5) (pd_var 4)) (ds_cons (ds_expr (pd_dpop (pd_var 4) (pd_var 5) ⟨rfl, rfl, rfl, rfl⟩))
      (ds_one (ds_ret (pd_eq (by exact hr) (pd_var 7) (pd_tup (pda_cons pd_str pda_nil)))))) ds_nil)
      (ds_one (ds_ret (pd_eq (by exact hr) (pd_var 7) (pd_tup (pda_cons pd_str (pda_cons (pd_var 5) pda_nil)))))))))))), ?_⟩
  rintro ds μ Q ⟨d, c, a, dd, md, kd, many, n, rows, nx, rfl, hd, hn, ht, hx, q⟩
  walk_at "d0"
  walk_at "x"
  refine ⟨rfl, d, c, 5, n, rfl, by decide, by decide, hd, by omega, fun μ1 way w0 w5 hd1 b1 => ?_⟩
  have ht1 := ht.but hd b1
  walk_at "x"
  rw [gDIx_r ht1.hm rfl mkr_k]
  walk_at "x"
  obtain ⟨n1, n2, n3, n4, n5, n6⟩ := ht.nes
  have ap := deck_apart hd ht
  have dk : ∀ x ∈ [d, c], x ∉ [a, dd, md, kd] := fun x hx hm => by
    have := ap x hm
    simp only [List.mem_cons, List.not_mem_nil, or_false] at hx
    rcases hx with rfl | rfl
    · exact this.1 rfl
    · exact this.2 rfl
  have fr1 : Frm d c μ μ1 := Frm.refl.but b1
  by_cases hw : way < 2
  · simp only [hw, decide_true, if_true]
    walk_at "x"
    refine ⟨rfl, d, c, a, dd, md, kd, many, _, rows, nx, rfl, hd1, by omega, ht1, hx, fun μ2 rows' ht2 hd2 fr2 => ?_⟩
    refine q μ2 rows' (nx + 1) (Nat.le_refl _) ht2 (hd2.more (by omega)) fun b o h hb => ?_
    exact fr2 b o (fr1 b o h (fun z => hb (by rw [z]; simp)) fun z => hb (by rw [z]; simp)) hb
  simp only [hw, decide_false, Bool.false_eq_true, if_false]
  unfold dCallX
  walk_at "x"
  rw [gDIx_r ht1.hm rfl mkr_n]
  walk_at "x"
  refine ⟨d, c, (nx : Int) + 2, _, rfl, by omega, by have := ht.nb; omega, hd1, by omega, fun μ2 pl p0 p1 hd2 b2 => ?_⟩
  have ht2 := ht1.but hd1 b2
  have fr2 := fr1.but b2
  -- what both ways end with
  have fin : ∀ μ' rows' (m : Nat), m ≤ n + 20 → TOk cz μ' a dd md kd many rows' nx → Deck μ' d c m → FrT [d, c, a, dd, md, kd] μ μ' → Q (.bl true) μ' := fun μ' rows' m hm h1 h2 h3 => q μ' rows' nx (by omega) h1 (h2.more hm) h3
  walk_at "x"
  by_cases hw4 : way < 4
  · simp only [hw4, decide_true, if_true]
    walk_at "x"
    rw [gDIx_r ht2.hm rfl mkr_m]
    walk_at "x"
    refine ⟨d, c, many, _, rfl, ht.m1.1, ht.m1.2, hd2, by omega, fun μ3 vs hv hd3 fr3 => ?_⟩
    have ht3 := ht2.frm hd2 fr3
    walk_at "x"
    refine ⟨a, dd, rows, _, pl, some vs, rfl, ht3.live, fun hin μ4 hl4 oth4 => ?_, fun hin μ4 ex4 => ?_⟩
    · have hk4 : μ4 kd = some (.dK (rows.map rk)) := (oth4 kd n3.symm n5.symm).trans ht3.hk
      have hm4 : μ4 md = some (.dK (mkr kd (nx : Int) (many : Int))) := (oth4 md n2.symm n4.symm).trans ht3.hm
      walk_at "x"
      refine ⟨_, .inl pl, .inl ⟨kd, rfl, hk4⟩, rfl, ?_⟩
      rw [has_rk, decide_eq_true hin]
      walk_at "x"
      refine ⟨sz (by decide), ?_⟩
      refine ⟨_, .inl pl, .inl ⟨kd, rfl, hk4⟩, rfl, ?_⟩
      rw [has_rk, decide_eq_true hin]
      walk_at "x"
      unfold dDPut
      walk_at "x"
      rw [gDSet_r hk4 rfl, set_old hin]
      refine ⟨live_few ht3.live, ?_⟩
      walk_at "x"
      refine eq_t1 (fin _ (putR pl vs rows) _ (Nat.le_refl _) ⟨⟨?_, ?_, hl4.nd, hl4.few⟩, ?_, mup_same, ht.ne, rw_set ht.ok hv, ht.nb, ht.m1⟩ ((deck_keep hd3 ?_ ?_).more (by omega)) fun b o h hb => ?_)
      · rw [mup_ne n3]; exact hl4.ha
      · rw [mup_ne n5]; exact hl4.hd
      · rw [mup_ne n6]; exact hm4
      · have := dk d (by simp)
        simp only [List.mem_cons, List.not_mem_nil, or_false, not_or] at this
        rw [mup_ne this.2.2.2, oth4 d this.1 this.2.1]
      · have := dk c (by simp)
        simp only [List.mem_cons, List.not_mem_nil, or_false, not_or] at this
        rw [mup_ne this.2.2.2, oth4 c this.1 this.2.1]
      · simp only [List.mem_cons, List.not_mem_nil, or_false, not_or] at hb
        rw [mup_ne hb.2.2.2.2.2, oth4 b hb.2.2.1 hb.2.2.2.1]
        exact fr3 b o (fr2 b o h hb.1 hb.2.1) hb.1 hb.2.1
    · have ht4 : TOk cz μ4 a dd md kd many rows nx := ht3.ext fun b o _ h => ex4 b o h
      walk_at "x"
      refine ⟨_, .inl pl, .inl ⟨kd, rfl, ht4.hk⟩, rfl, ?_⟩
      rw [has_rk, decide_eq_false hin]
      walk_at "x"
      refine ⟨sz (by decide), ?_⟩
      refine ⟨_, .inl pl, .inl ⟨kd, rfl, ht4.hk⟩, rfl, ?_⟩
      rw [has_rk, decide_eq_false hin]
      walk_at "x"
      refine eq_t2 (fin _ rows _ (Nat.le_refl _) ht4 ?_ fun b o h hb => ?_)
      · obtain ⟨cells, m, t, h1, h2, r⟩ := hd3.more (show _ ≤ n + 20 by omega)
        exact ⟨cells, m, t, ex4 _ _ h1, ex4 _ _ h2, r⟩
      · simp only [List.mem_cons, List.not_mem_nil, or_false, not_or] at hb
        exact ex4 b o (fr3 b o (fr2 b o h hb.1 hb.2.1) hb.1 hb.2.1)
  · simp only [hw4, decide_false, Bool.false_eq_true, if_false]
    walk_at "x"
    refine ⟨a, dd, rows, _, pl, none, rfl, ht2.live, fun hin μ4 hl4 oth4 => ?_, fun hin μ4 ex4 => ?_⟩
    · have hk4 : μ4 kd = some (.dK (rows.map rk)) := (oth4 kd n3.symm n5.symm).trans ht2.hk
      have hm4 : μ4 md = some (.dK (mkr kd (nx : Int) (many : Int))) := (oth4 md n2.symm n4.symm).trans ht2.hm
      walk_at "x"
      refine ⟨_, .inl pl, .inl ⟨kd, rfl, hk4⟩, rfl, ?_⟩
      rw [has_rk, decide_eq_true hin]
      walk_at "x"
      unfold dDPop
      walk_at "x"
      obtain ⟨vs, ev⟩ := lk_some_of_mem hin
      refine ⟨⟨kd, _, rfl, hk4⟩, kd, _, .inl pl, .tup (vs.map .int), rfl, hk4, rfl, by rw [val_rk, ev]; rfl, ?_⟩
      rw [out_rk]
      walk_at "x"
      refine ⟨sz (by decide), ?_⟩
      refine eq_t1 (fin _ (rows.filter fun r => decide (r.1 ≠ pl)) _ (Nat.le_refl _) ⟨⟨?_, ?_, hl4.nd, hl4.few⟩, ?_, mup_same, ht.ne, rw_out ht.ok, ht.nb, ht.m1⟩ ((deck_keep hd2 ?_ ?_).more (by omega)) fun b o h hb => ?_)
      · rw [mup_ne n3]; exact hl4.ha
      · rw [mup_ne n5]; exact hl4.hd
      · rw [mup_ne n6]; exact hm4
      · have := dk d (by simp)
        simp only [List.mem_cons, List.not_mem_nil, or_false, not_or] at this
        rw [mup_ne this.2.2.2, oth4 d this.1 this.2.1]
      · have := dk c (by simp)
        simp only [List.mem_cons, List.not_mem_nil, or_false, not_or] at this
        rw [mup_ne this.2.2.2, oth4 c this.1 this.2.1]
      · simp only [List.mem_cons, List.not_mem_nil, or_false, not_or] at hb
        rw [mup_ne hb.2.2.2.2.2, oth4 b hb.2.2.1 hb.2.2.2.1]
        exact fr2 b o h hb.1 hb.2.1
    · have ht4 : TOk cz μ4 a dd md kd many rows nx := ht2.ext fun b o _ h => ex4 b o h
      walk_at "x"
      refine ⟨_, .inl pl, .inl ⟨kd, rfl, ht4.hk⟩, rfl, ?_⟩
      rw [has_rk, decide_eq_false hin]
      walk_at "x"
      refine ⟨sz (by decide), ?_⟩
      refine eq_t2 (fin _ rows _ (Nat.le_refl _) ht4 ?_ fun b o h hb => ?_)
      · obtain ⟨cells, m, t, h1, h2, r⟩ := hd2.more (show _ ≤ n + 20 by omega)
        exact ⟨cells, m, t, ex4 _ _ h1, ex4 _ _ h2, r⟩
      · simp only [List.mem_cons, List.not_mem_nil, or_false, not_or] at hb
        exact ex4 b o (fr2 b o h hb.1 hb.2.1)
end
end K21

namespace K21
open PySem PySem.Spec PyProof.Rows L2 Dl
local macro_rules | `(tactic| walk_at "dd") => `(tactic| try simp only [dSeq, dNext, dRet, dIf, dAsg, dPar, dName, dGTup, dGCons, dGNil, dOp, dVar, slot, dC, dB, dAndT, dOrT, dNotT, dIfE, dAnd, dOr, dTup, dLst, dCons, dNil, dCall, dCallK, dCB, dUn, dSl, dNo, dSome, startD, dM0,
  gEq_int, gNe_int, gEq_bl, gEq_str, gNe_str, gLt_int, gGt_int, gLe_int, gGe_int, gAdd_int, gSub_int, gMul_int, gMod_int, gDiv_int, gPow_int, gNeg_int, gNot_bl, gIs_bl, gIx_t0, gIx_t1, gIx_t2, gLen_l, gLen_t, gSl_l, gSl_sq, gSl_t, gRev_l, gRev_t, gRevM_l, gList_l, gList_sq, gList_t, gMax2_int, gRepr_l, gRepr_t,
  List.map, List.replicate, List.length, List.set, List.cons_append, List.nil_append, List.append, Nat.sub, Nat.reduceSub, Nat.reduceAdd, true_and, and_true, if_true, if_false, decide_true, decide_false, Bool.not_true, Bool.not_false, Bool.false_eq_true, reduceIte])
local macro_rules | `(tactic| walk_at "d0") => `(tactic| try simp only [startD, List.map, List.replicate, List.length, List.cons_append, List.nil_append, List.append, Nat.sub, Nat.reduceSub, Nat.reduceAdd])
local macro_rules | `(tactic| walk_at "dx") => `(tactic| try simp only [↓s_seq, ↓s_next, ↓s_brk, ↓s_cnt, ↓s_retN, ↓s_ret, ↓s_drop, ↓s_if, ↓s_asg, ↓s_par, ↓s_par2, ↓s_tup, ↓s_gnil, ↓s_gcons, ↓s_op, ↓s_c, ↓s_b, ↓s_bB, ↓s_andT, ↓s_orT, ↓s_notT, ↓s_ifE, ↓s_and, ↓s_or, ↓s_bAnd, ↓s_bOr, ↓s_etup, ↓s_lst, ↓s_nil, ↓s_cons, ↓s_call, ↓s_callB, ↓s_cb, ↓s_un, ↓s_m0, ↓s_len, ↓s_both, ↓s_fld, ↓s_setF, ↓s_make, ↓s_makeM, ↓s_meth, ↓s_prop, ↓s_orV, ↓s_sl, ↓s_no, ↓s_some, ↓s_bSome, ↓s_fmt, ↓s_fmtS, ↓s_fmtI, ↓s_join, ↓s_js0, ↓s_js1, ↓s_bJs, ↓s_sub, ↓s_yes, ↓p_nil, ↓v_0, ↓v_1, ↓v_2, ↓v_3, ↓v_4, ↓v_5, ↓v_6, ↓v_7, ↓v_8, ↓v_9, ↓v_10, ↓v_11, ↓v_12, ↓v_13, ↓v_14, ↓v_15, ↓v_16, ↓v_17, ↓n_0, ↓n_1, ↓n_2, ↓n_3, ↓n_4, ↓n_5, ↓n_6, ↓n_7, ↓n_8, ↓n_9, ↓n_10, ↓n_11, ↓n_12, ↓n_13, ↓n_14, ↓n_15, ↓n_16, ↓n_17, ↓p_0, ↓p_1, ↓p_2, ↓p_3, ↓p_4, ↓p_5, ↓p_6, ↓p_7, ↓ex_some, ↓ex_bl, ↓gEq_int, ↓gNe_int, ↓gEq_bl, ↓gNe_bl, ↓gEq_str, ↓gNe_str, ↓gLt_int, ↓gGt_int, ↓gLe_int, ↓gGe_int, ↓gAdd_int, ↓gAdd_str, ↓gAdd_t, ↓gAdd_l, ↓gEq_nil, ↓gNe_nil0, ↓gSub_int, ↓gMul_int, ↓gMod_int, ↓gDiv_int, ↓gPow_int, ↓gNeg_int, ↓gNot_bl, ↓gIs_bl, ↓gIx_t0, ↓gIx_t1, ↓gIx_t2, ↓gLen_l, ↓gLen_t, ↓gSl_l, ↓gSl_sq, ↓gSl_t, ↓gRev_l, ↓gRev_t, ↓gRevM_l, ↓gList_l, ↓gList_sq, ↓gList_t, ↓gMax2_int, ↓gRepr_l, ↓gRepr_t, ↓gAbs_int, ↓gDivA_int, ↓gMulW_int, ↓gStrI_int, ↓gBoolI_int, ↓gBoolI_bl, ↓gTuple_l, ↓gTuple_t, ↓gIsi_non, ↓gIsi_bl, ↓gIsi_int, ↓gIsi_str, ↓gIsi_lst, ↓gIsi_tup, ↓gIsi_obj, ↓gDun_obj, ↓gOne_obj, ↓isBl_bl, ↓isStr_str, ansB, ansO, List.length, List.cons_append, List.nil_append, List.append, Nat.reduceAdd, true_and, and_true, if_true, if_false, decide_true, decide_false, Bool.not_true, Bool.not_false, Bool.false_eq_true, reduceIte])

local macro_rules | `(tactic| walk_at "x") => `(tactic| (walk_at "dx"; repeat (simp only [↓s_nsub, ↓s_callX, ↓s_pure, ↓s_pureT, ↓s_rq, ↓s_rowA, ↓s_nnew, ↓s_bM, pick, Dl.nth, List.map_cons, List.map_nil, List.append_nil]; walk_at "dx")))

section
variable {P : Program} {w : World} {K : PySem.W.Frag} {mg : Str → Option Value} {base : Heap} {f : Addr} {fd : FuncData} {cz : Cs}
structure Tb where
  a : Addr
  dd : Addr
  md : Addr
  kd : Addr
  many : Nat
  rows : Rows
  nx : Nat
def Tb.adr (t : Tb) : List Addr := [t.a, t.dd, t.md, t.kd]
def Tb.enc (t : Tb) : D := .tup [.ref t.a, .ref t.md]
abbrev TO (cz : Cs) (μ : Mu) (t : Tb) : Prop := TOk cz μ t.a t.dd t.md t.kd t.many t.rows t.nx
theorem TO.has {μ : Mu} {t : Tb} (h : TO cz μ t) : ∀ x ∈ t.adr, μ x ≠ none := by
  intro x hx
  simp only [Tb.adr, List.mem_cons, List.not_mem_nil, or_false] at hx
  rcases hx with rfl | rfl | rfl | rfl
  · rw [h.live.ha]; simp
  · rw [h.live.hd]; simp
  · rw [h.hm]; simp
  · rw [h.hk]; simp
theorem deck_ext {μ μ' : Mu} {d c : Addr} {n m : Nat} (h : Deck μ d c n) (e : ∀ b o, μ b = some o → μ' b = some o) (l : n ≤ m) : Deck μ' d c m := by
  obtain ⟨cells, k, t, h1, h2, r⟩ := h.more l
  exact ⟨cells, k, t, e _ _ h1, e _ _ h2, r⟩
theorem TO.ext {μ μ' : Mu} {t : Tb} (h : TO cz μ t) (e : ∀ b o, b ∈ t.adr → μ b = some o → μ' b = some o) : TO cz μ' t := TOk.ext h e
theorem wipeA {a b c d e f g h i j k l m n : Option D} : wipeD [a, b, c, d, e, f, g, h, i, j, k, l, m, n] [11, 12] = [a, b, c, d, e, f, g, h, i, j, k, none, none, n] := rfl
theorem ne_tups {x y : D} {μ : Mu} {Q : DQ} (p : pur x = true) (pl : (py x).plain = true) (hdp : (py x).depth ≤ 64) (e : PyData.eqv (py x) (py x) = true) (hxy : y = x) (q : Q (.bl false) μ) : gNe y x μ Q := by
  rw [hxy]
  unfold gNe gD
  rw [vw_pur p]
  exact ⟨p, p, ⟨pl, pl, hdp⟩, by show Q (.bl (!PyData.eqv (py x) (py x))) μ; rw [e]; exact q⟩
theorem eq_tups {x y : D} {μ : Mu} {Q : DQ} (p : pur x = true) (pl : (py x).plain = true) (hdp : (py x).depth ≤ 64) (e : PyData.eqv (py x) (py x) = true) (hxy : y = x) (q : Q (.bl true) μ) : gEq y x μ Q := by
  rw [hxy]
  unfold gEq gD
  rw [vw_pur p]
  exact ⟨p, p, ⟨pl, pl, hdp⟩, by rw [e]; exact q⟩
/-- a table that is made by place or by name -/
theorem made {rows : Rows} {nx : Int} {μ : Mu} {ix : List Nat} {ds : List D} {Q : DQ} (hix : ∀ a, pick ix (.ref a :: ds) = [.ref a, .tup (rows.map encR), .int nx]) (nd : (rows.map (·.1)).Nodup) (fw : rows.length < 64)
    (h : ∀ a dd μ', μ a = none → μ dd = none → a ≠ dd → Live cz μ' a dd rows nx → (∀ b, b ≠ a → b ≠ dd → μ' b = μ b) → Q (.ref a) μ') : gMakeM cz.LiveTable (sp_init cz) ix ds μ Q := by
  intro a ha
  rw [hix]
  refine ⟨a, rows, nx, rfl, mup_same, nd, fw, fun μ' dd hdd ne hl oth => ⟨rfl, h a dd μ' ha ?_ ne hl fun b h1 h2 => ?_⟩⟩
  · rwa [mup_ne ne.symm] at hdd
  · rw [oth b h1 h2, mup_ne h1]
theorem made2 {rows : Rows} {nx : Int} {μ : Mu} {b : Bool} {Q : DQ} (nd : (rows.map (·.1)).Nodup) (fw : rows.length < 64)
    (h : ∀ a dd μ', μ a = none → μ dd = none → a ≠ dd → Live cz μ' a dd rows nx → (∀ b, b ≠ a → b ≠ dd → μ' b = μ b) → Q (.ref a) μ') :
    if b = true then gMakeM cz.LiveTable (sp_init cz) [0, 1, 2] [.tup (rows.map encR), .int nx] μ Q else gMakeM cz.LiveTable (sp_init cz) [0, 2, 1] [.int nx, .tup (rows.map encR)] μ Q := by
  split
  · exact made (fun _ => rfl) nd fw h
  · exact made (fun _ => rfl) nd fw h
theorem kdict {rows : Rows} (nd : (rows.map (·.1)).Nodup) : mergeD [] (rows.map rk) = rows.map rk := merge_rk (pre := []) nd
theorem rows_raw {rows : Rows} : rows.map encR = (rows.map rk).map pairK := by
  rw [List.map_map]
  rfl
theorem rows_pur {rows : Rows} : pur (.tup (rows.map encR)) = true := by
  have hv : ∀ vs : List Int, purL (vs.map D.int) = true := fun vs => by
    induction vs with
    | nil => rfl
    | cons v vs ih => simp only [List.map_cons, purL, pur, ih, Bool.and_self]
  show purL (rows.map encR) = true
  induction rows with
  | nil => rfl
  | cons r rows ih => simp only [List.map_cons, purL, encR, pur, hv, ih, Bool.and_self]
theorem ok_law (T : Txt mg K cz) (hm : Hm P w K mg base cz) (q__law_alike_2 : ClX P w K mg base 3 "_law_alike" (sp_alike cz) 2 [] [] [0, 1]) (q__law_deck_1 : ClX P w K mg base 1 "_law_deck" (sp_dk) 1 [] [] [0]) (q__law_deed_3 : ClX P w K mg base 5 "_law_deed" (sp_deed cz) 3 [] [] [0, 1, 2]) (q__law_draw_2 : ClX P w K mg base 1 "_law_draw" (sp_dr) 2 [] [] [0, 1]) (q__law_rows_2 : ClX P w K mg base 4 "_law_rows" (sp_rw) 2 [] [] [0, 1])
    (F : Fun K "law" "law" s_law f fd) : FnG P w K mg base (CX P w) 6 f fd ["_law_script"] (upX K (spLaw)) := by
  obtain ⟨k_LiveTable_2, k_LiveTable_0_following_rows, k_LiveTable_0, p_rows, d___len__, d___contains__, v_put, m_change_2, m_change_0_values_number, m_drop_1, m_drop_0_number⟩ := hm
  refine okX F sc_law (fun ⟨ns, e, _⟩ => by rw [e]; rfl) ?_
  rintro X G Ed ⟨cdv, A, outer, s, H, E, rfl⟩ hgu hr wx hp
  refine ⟨_, (ds_cons (ds_set (i := 1) sc_law.nd (pd_cx wx0 q__law_deck_1 (by exact hr) (by exact hgu) (pdc_p (pda_cons (pd_var 0) pda_nil))))
      (ds_cons (ds_set (i := 2) sc_law.nd (pd_lstM pda_nil))
      (ds_cons (ds_for hp rfl (di_range1 T.range (pda_cons pd_int pda_nil)) (dg_name (i := 3) sc_law.nd) (ds_cons (ds_set (i := 4) sc_law.nd (pd_add pd_int (pd_cx wx0 q__law_draw_2 (by exact hr) (by exact hgu) (pdc_p (pda_cons (pd_var 1) (pda_cons pd_int pda_nil))))))
      (ds_cons (ds_asg (pd_cx wx0 q__law_rows_2 (by exact hr) (by exact hgu) (pdc_p (pda_cons (pd_var 1) (pda_cons (pd_var 4) pda_nil)))) (dg_tup rfl (dgs_cons (dg_name (i := 5) sc_law.nd) (dgs_cons (dg_name (i := 6) sc_law.nd) dgs_nil))))
      (ds_cons (ds_set (i := 7) sc_law.nd (pd_reprX (by exact hr) (by exact hgu) T.repr (by decide +kernel) (pd_var 5)))
      (ds_cons (ds_set (i := 8) sc_law.nd (pd_if (pt_eq (by exact hr) (pd_mod (pd_var 3) pd_int) pd_int) (pd_mkM k_LiveTable_2 hr hgu (pdc_p (pda_cons (pd_var 5) (pda_cons (pd_var 6) pda_nil)))) (pd_mkM k_LiveTable_0_following_rows hr hgu (pdc_k (pdk_cons (pd_var 6) (pdk_cons (pd_var 5) pdk_nil))))))
      (ds_cons (ds_set (i := 9) sc_law.nd (pd_disp (.cons pd_str (pd_dictK rfl T.dict (pd_list T.list (by decide +kernel) (pd_var 5))) (.cons pd_str (pd_var 6) (.cons pd_str (pd_var 4) .nil)))))
      (ds_cons (ds_expr (pd_append (pd_var 2) (pda_cons (pd_tup (pda_cons (pd_var 8) (pda_cons (pd_var 9) pda_nil))) pda_nil)))
      (ds_cons (ds_for hp rfl (di_range1 T.range (pda_cons (pd_cx wx0 q__law_draw_2 (by exact hr) (by exact hgu) (pdc_p (pda_cons (pd_var 1) (pda_cons pd_int pda_nil)))) pda_nil)) (dg_name (i := 10) sc_law.nd) (ds_one (ds_if (pt_w (pw_o (pt_n (pt_b (pd_cx wx0 q__law_deed_3 (by exact hr) (by exact hgu) (pdc_p (pda_cons (pd_var 1) (pda_cons (pd_var 8) (pda_cons (pd_var 9) pda_nil))))))) (pw_o1 (pt_n (pt_b (pd_cx wx0 q__law_alike_2 (by exact hr) (by exact hgu) (pdc_p (pda_cons (pd_var 8) (pda_cons (pd_var 9) pda_nil))))))))) (ds_one (ds_ret pd_bl)) ds_nil)))
      (ds_one (ds_if (pt_w (pw_o (pt_ne (by exact hr) (pd_reprX (by exact hr) (by exact hgu) T.repr (by decide +kernel) (pd_var 5)) (pd_var 7)) (pw_o1 (pt_ne (by exact hr) (pd_lc [("_law_one", 11), ("_law_kept_model", 12)] rfl sc_law.nd (di_row (pd_var 2)) (blkOk_by (by kernel_rfl)) (fun _ _ _ _ _ => (cg_tup rfl (cgs_cons (cg_name (i := 11) sc_law.nd) (cgs_cons (cg_name (i := 12) sc_law.nd) cgs_nil)))) (fun _ _ _ _ _ => (pdts_one (pt_n (pt_b (pd_cx wx0 q__law_alike_2 (by exact hr) (by exact hgu) (pdc_p (pda_cons (pd_var 11) (pda_cons (pd_var 12) pda_nil)))))))) (fun _ _ _ _ _ => pd_int)) (pd_lstM pda_nil))))) (ds_one (ds_ret pd_bl)) ds_nil))))))))))
      (ds_cons (ds_set (i := 13) sc_law.nd (pd_mkM k_LiveTable_0 hr hgu pdc_0))
      (ds_cons (ds_if (pt_w (pw_o (pt_ne (by exact hr) (pd_pr p_rows hr hgu (pd_var 13)) (pd_tup pda_nil)) (pw_o (pt_ne (by exact hr) (pd_lenO d___len__ T.len hr hgu (pd_var 13)) pd_int) (pw_o (pt_inO d___contains__ hr hgu pd_int (pd_var 13)) (pw_o (pt_ne (by exact hr) (pd_mv wx0 v_put (by exact hr) (by exact hgu) (pd_var 13) (pda_cons pd_int pda_nil)) pd_int) (pw_o1 (pt_ne (by exact hr) (pd_pr p_rows hr hgu (pd_var 13)) (pd_tup (pda_cons (pd_tup (pda_cons pd_int (pda_cons (pd_tup (pda_cons pd_int pda_nil)) pda_nil))) pda_nil))))))))) (ds_one (ds_ret pd_bl)) ds_nil)
      (ds_one (ds_ret (pd_and (pd_eq (by exact hr) (pd_pr p_rows hr hgu (pd_mkM k_LiveTable_0 hr hgu pdc_0)) (pd_tup pda_nil)) (pd_one (pd_eq (by exact hr) (pd_mv wx0 v_put (by exact hr) (by exact hgu) (pd_mkM k_LiveTable_0 hr hgu pdc_0) (pda_cons pd_int pda_nil)) pd_int)))))))))), ?_⟩
  rintro ds μ Q ⟨ns, rfl, hl, rfl, q⟩
  walk_at "d0"
  walk_at "x"
  refine ⟨rfl, ns, rfl, hl, fun μ1 d c _ _ hd1 _ => ?_⟩
  walk_at "x"
  simp only [dLstM, dNil]
  refine ⟨Nat.zero_le _, fun fl hfl => ?_⟩
  have nf : fl ≠ d ∧ fl ≠ c := ⟨fun e => (deck_ne hd1).1 (by rw [← e]; exact hfl), fun e => (deck_ne hd1).2 (by rw [← e]; exact hfl)⟩
  have hd2 : Deck (mup μ1 fl (.lst [])) d c 0 := deck_fresh hd1 hfl
  have hf2 : (mup μ1 fl (.lst [])) fl = some (.lst (([] : List Tb).map Tb.enc)) := mup_same
  revert hd2 hf2
  generalize mup μ1 fl (.lst []) = μ2
  intro hd2 hf2
  unfold dFor dRng1
  walk_at "x"
  refine ⟨by decide, by decide, fun i ρ μ' => ∃ (Ts : List Tb) (x3 x4 x5 x6 x7 x8 x9 x10 x11 x12 x13 : Option D), Ts.length = i ∧ (∀ t ∈ Ts, TO cz μ' t) ∧ μ' fl = some (.lst (Ts.map Tb.enc)) ∧ Deck μ' d c (2000 * i) ∧ ρ = [some (.sq (ns.map .int)), some (.ref d), some (.ref fl), x3, x4, x5, x6, x7, x8, x9, x10, x11, x12, x13],
    ⟨[], _, _, _, _, _, _, _, _, _, _, _, rfl, nofun, hf2, hd2, rfl⟩, fun _ _ _ _ => trivial, ?_, ?_⟩
  · rintro i x ρ μ3 hx ⟨Ts, x3, x4, x5, x6, x7, x8, x9, x10, x11, x12, x13, rfl, hT, hf3, hd3, rfl⟩
    obtain ⟨hi, rfl⟩ := rng_at (n := 6) hx
    walk_at "x"
    refine ⟨rfl, d, c, 3, _, rfl, by decide, by decide, hd3, by omega, fun μ4 m m0 m3 hd4 b4 => ?_⟩
    obtain ⟨mm, rfl⟩ := Int.eq_ofNat_of_zero_le m0
    have e1 : (1 : Int) + (mm : Int) = ((1 + mm : Nat) : Int) := by omega
    walk_at "x"
    rw [e1]
    refine ⟨rfl, d, c, 1 + mm, _, rfl, by omega, by omega, hd4, by omega, fun μ5 rows nx hr5 hn5 ok hd5 fr5 => ?_⟩
    have shw : Shows (.tup (rows.map encR)) := rows_shows ok.1 (Nat.le_trans hn5 (by decide)) (by omega) (by omega)
    walk_at "x"
    refine ⟨_, rfl, .inl ⟨shw, ?_⟩⟩
    rw [vw_pur (rows_pur (rows := rows))]
    walk_at "x"
    refine ⟨by decide, made2 ok.2 (by omega) fun a dd μ6 ha5 hdd5 nad live6 oth6 => ?_⟩
    have ad5 : a ≠ d ∧ a ≠ c := ⟨fun z => (deck_ne hd5).1 (by rw [← z]; exact ha5), fun z => (deck_ne hd5).2 (by rw [← z]; exact ha5)⟩
    have dd5 : dd ≠ d ∧ dd ≠ c := ⟨fun z => (deck_ne hd5).1 (by rw [← z]; exact hdd5), fun z => (deck_ne hd5).2 (by rw [← z]; exact hdd5)⟩
    have hd6 : Deck μ6 d c (2000 * Ts.length + 1 + 60) := deck_keep hd5 (oth6 d ad5.1.symm dd5.1.symm) (oth6 c ad5.2.symm dd5.2.symm)
    walk_at "x"
    intro md hmd6
    unfold dPairs
    walk_at "x"
    refine ⟨.lst (rows.map encR), rows.map rk, rfl, by rw [vw_lst, rows_raw], fun kd hkd => ?_⟩
    simp only [kdict ok.2]
    unfold dPairs
    walk_at "x"
    unfold dPairs
    walk_at "x"
    unfold dPairs
    refine ⟨_, rfl, Nat.le_of_ble_eq_true rfl, ?_⟩
    have kmd : kd ≠ md := fun z => by rw [z, mup_same] at hkd; cases hkd
    have hkd6 : μ6 kd = none := by rwa [mup_ne kmd] at hkd
    have apart6 : ∀ b o, μ6 b = some o → b ≠ md ∧ b ≠ kd := fun b o h => ⟨fun z => (by rw [z, hmd6] at h; cases h), fun z => (by rw [z, hkd6] at h; cases h)⟩
    generalize hμ7 : mup _ md (Ob.dK (mergeD [] _)) = μ7
    have hm7 : μ7 md = some (.dK (mkr kd (nx : Int) ((1 + mm : Nat) : Int))) := by rw [← hμ7]; exact mup_same
    have hk7 : μ7 kd = some (.dK (rows.map rk)) := by rw [← hμ7, mup_ne kmd]; exact mup_same
    have ext7 : ∀ b o, μ6 b = some o → μ7 b = some o := fun b o h => by
      obtain ⟨h1, h2⟩ := apart6 b o h
      rw [← hμ7, mup_ne h1, mup_ne h2, mup_ne h1]
      exact h
    have cur7 : TO cz μ7 ⟨a, dd, md, kd, 1 + mm, rows, nx⟩ := ⟨⟨ext7 _ _ live6.ha, ext7 _ _ live6.hd, live6.nd, live6.few⟩, hm7, hk7, ⟨(apart6 dd _ live6.hd).1, (apart6 dd _ live6.hd).2, kmd.symm⟩, ok, (show nx ≤ 60 by omega), (show 1 ≤ 1 + mm by omega), (show 1 + mm ≤ 3 by omega)⟩
    have hd7 : Deck μ7 d c (2000 * Ts.length + 1 + 60) := deck_ext hd6 ext7 (Nat.le_refl _)
    -- what there was before lies apart, and stays
    have old7 : ∀ b o, μ3 b = some o → b ≠ d → b ≠ c → μ7 b = some o ∧ b ∉ [d, c, a, dd, md, kd] := fun b o h h1 h2 => by
      have e5 : μ5 b = some o := fr5 b o (by rw [b4 b h1 h2]; exact h) h1 h2
      have n1 : b ≠ a := fun z => by rw [z, ha5] at e5; cases e5
      have n2 : b ≠ dd := fun z => by rw [z, hdd5] at e5; cases e5
      have e6 : μ6 b = some o := (oth6 b n1 n2).trans e5
      obtain ⟨n3, n4⟩ := apart6 b o e6
      refine ⟨ext7 b o e6, ?_⟩
      simp only [List.mem_cons, List.not_mem_nil, or_false, not_or]
      exact ⟨h1, h2, n1, n2, n3, n4⟩
    clear hμ7
    obtain ⟨hf7, hflF⟩ := old7 fl _ hf3 nf.1 nf.2
    have apT : ∀ t ∈ Ts, ∀ b ∈ t.adr, b ≠ d ∧ b ≠ c := fun t h => deck_apart hd3 (hT t h)
    have hOld : ∀ t ∈ Ts, ∀ b ∈ t.adr, b ∉ [d, c, a, dd, md, kd] := fun t h b hb => by
      obtain ⟨o, ho⟩ := Option.ne_none_iff_exists'.mp ((hT t h).has b hb)
      exact (old7 b o ho (apT t h b hb).1 (apT t h b hb).2).2
    have hT7 : ∀ t ∈ Ts, TO cz μ7 t := fun t h => (hT t h).ext fun b o hb e => (old7 b o e (apT t h b hb).1 (apT t h b hb).2).1
    unfold dM
    walk_at "x"
    rw [gAppend_ref hf7]
    refine ⟨⟨fl, _, rfl, hf7⟩, sz (by decide), by rw [List.length_map]; exact Nat.lt_of_lt_of_le (show _ < 6 by omega) (sz (by decide)), ?_⟩
    -- the list of the tables is none of the tables' things
    have flT : ∀ t ∈ Ts, ∀ b ∈ t.adr, b ≠ fl := fun t h b hb z => by
      have hm := hT t h
      rw [z] at hb
      simp only [Tb.adr, List.mem_cons, List.not_mem_nil, or_false] at hb
      rcases hb with e | e | e | e
      · have := hm.live.ha; rw [← e, hf3] at this; cases this
      · have := hm.live.hd; rw [← e, hf3] at this; cases this
      · have := hm.hm; rw [← e, hf3] at this; cases this
      · have := hm.hk; rw [← e, hf3] at this; cases this
    have flF := hflF
    simp only [List.mem_cons, List.not_mem_nil, or_false, not_or] at flF
    have cur8 : ∀ o, TO cz (mup μ7 fl o) ⟨a, dd, md, kd, 1 + mm, rows, nx⟩ := fun o => cur7.ext fun b o' hb e => by
      have : b ≠ fl := fun z => by
        rw [z] at hb
        exact hflF (by simp only [Tb.adr] at hb; simp only [List.mem_cons, List.not_mem_nil, or_false] at hb ⊢; exact .inr (.inr hb))
      rw [mup_ne this]
      exact e
    have hT8 : ∀ o, ∀ t ∈ Ts, TO cz (mup μ7 fl o) t := fun o t h => (hT7 t h).ext fun b o' hb e => by rw [mup_ne (flT t h b hb)]; exact e
    have hd8 : ∀ o, Deck (mup μ7 fl o) d c (2000 * Ts.length + 1 + 60) := fun o => deck_keep hd7 (mup_ne nf.1.symm) (mup_ne nf.2.symm)
    have hf8 : ∀ o, (mup μ7 fl o) fl = some o := fun o => mup_same
    have cur8 := cur8 (.lst (Ts.map Tb.enc ++ [.tup [.ref a, .ref md]]))
    have hT8 := hT8 (.lst (Ts.map Tb.enc ++ [.tup [.ref a, .ref md]]))
    have hd8 := hd8 (.lst (Ts.map Tb.enc ++ [.tup [.ref a, .ref md]]))
    have hf8 := hf8 (.lst (Ts.map Tb.enc ++ [.tup [.ref a, .ref md]]))
    revert cur8 hT8 hd8 hf8
    generalize mup μ7 fl (.lst (Ts.map Tb.enc ++ [.tup [.ref a, .ref md]])) = μ8
    intro cur8 hT8 hd8 hf8
    walk_at "x"
    refine ⟨rfl, d, c, 31, _, rfl, by decide, by decide, hd8, by omega, fun μ9 jj j0 j31 hd9 b9 => ?_⟩
    obtain ⟨jn, rfl⟩ := Int.eq_ofNat_of_zero_le j0
    refine ⟨by omega, by omega, fun k ρ μ' => ∃ (rows' : Rows) (nx' : Nat) (z10 : Option D), nx' ≤ 20 + k ∧ TO cz μ' ⟨a, dd, md, kd, 1 + mm, rows', nx'⟩ ∧ (∀ t ∈ Ts, TO cz μ' t) ∧ μ' fl = some (.lst (Ts.map Tb.enc ++ [.tup [.ref a, .ref md]])) ∧ Deck μ' d c (2000 * Ts.length + 62 + 20 * k) ∧ ρ = [some (.sq (ns.map .int)), some (.ref d), some (.ref fl), some (.int (Ts.length : Int)), some (.int ((1 + mm : Nat) : Int)), some (.tup (rows.map encR)), some (.int (nx : Int)), some (.str (py (.tup (rows.map encR))).shown), some (.ref a), some (.ref md), z10, x11, x12, x13],
      ⟨rows, nx, _, by omega, ?_, ?_, ?_, hd9, rfl⟩, fun _ _ _ _ => trivial, ?_, ?_⟩
    · exact TOk.but cur8 hd8 b9
    · exact fun t h => TOk.but (hT8 t h) hd8 b9
    · rw [b9 fl nf.1 nf.2]; exact hf8
    · rintro k x ρ μ10 hx ⟨rows', nx', z10, hn, ht, hOl, hfl, hd10, rfl⟩
      obtain ⟨hk, rfl⟩ := rng_at (n := jn) hx
      walk_at "x"
      refine ⟨rfl, d, c, a, dd, md, kd, 1 + mm, _, rows', nx', rfl, hd10, by omega, ht, by omega, fun μ11 rows2 nx2 hn2 ht2 hd11 fr => ?_⟩
      walk_at "x"
      refine ⟨rfl, a, dd, md, kd, 1 + mm, rows2, nx2, rfl, ht2, fun μ12 ex => ?_⟩
      walk_at "x"
      exact ⟨rows2, nx2, _, by omega, ht2.ext (fun b o _ h => ex b o h), fun t h => (hOl t h).ext fun b o hb e => ex b o (fr b o e (hOld t h b hb)), ex _ _ (fr _ _ hfl hflF), deck_ext hd11 ex (by omega), rfl⟩
    · rintro ρ μ10 ⟨rows', nx', z10, hn, ht, hOl, hfl, hd10, rfl⟩
      rw [rng_len] at hn hd10
      walk_at "x"
      refine ⟨_, rfl, .inl ⟨?_, ?_⟩⟩
      · rw [vw_pur (rows_pur (rows := rows))]; exact shw
      rw [vw_pur (rows_pur (rows := rows))]
      walk_at "x"
      have hA : ∀ t ∈ Ts ++ [(⟨a, dd, md, kd, 1 + mm, rows', nx'⟩ : Tb)], TO cz μ10 t := fun t h => by
        rcases List.mem_append.mp h with h | h
        · exact hOl t h
        · rw [List.mem_singleton.mp h]; exact ht
      have hfA : μ10 fl = some (.lst ((Ts ++ [(⟨a, dd, md, kd, 1 + mm, rows', nx'⟩ : Tb)]).map Tb.enc)) := by rw [hfl, List.map_append]; rfl
      unfold dLc dRowA
      walk_at "x"
      refine ⟨(Ts ++ [(⟨a, dd, md, kd, 1 + mm, rows', nx'⟩ : Tb)]).map Tb.enc, by unfold Dl.rowOf; rw [vw_ref hfA], fun W nW => ⟨fun i acc μ' => acc = [] ∧ ∀ b o, μ10 b = some o → μ' b = some o, ⟨rfl, fun b o h => ?_⟩, fun i acc μ' hp => ?_, ?_, ?_⟩⟩
      · have : b ≠ W := fun z => by rw [z, nW] at h; cases h
        rw [mup_ne this]; exact h
      · show Dl.rowOf μ' (.ref fl) = _
        unfold Dl.rowOf
        rw [vw_ref (hp.2 _ _ hfA)]
      · rintro i x acc μ11 hx ⟨rfl, ex⟩
        rw [List.getElem?_map] at hx
        obtain ⟨t, e, rfl⟩ := Option.map_eq_some_iff.mp hx
        have htt := hA t (List.mem_of_getElem? e)
        walk_at "x"
        simp only [wipeA]
        unfold Tb.enc
        walk_at "x"
        refine ⟨rfl, t.a, t.dd, t.md, t.kd, t.many, t.rows, t.nx, rfl, htt.ext (fun b o _ h => ex b o h), fun μ12 ex2 => ?_⟩
        walk_at "x"
        exact fun b o h => ex2 b o (ex b o h)
      · rintro acc μ11 ⟨rfl, ex⟩
        walk_at "x"
        have ex1 : ∀ b o, μ10 b = some o → (mdel μ11 W) b = some o := fun b o h => by
          have : b ≠ W := fun z => by rw [z, nW] at h; cases h
          rw [mdel_ne this]
          exact ex b o h
        revert ex1
        generalize mdel μ11 W = μ12
        intro ex1
        simp only [dLstM, dNil]
        refine ⟨Nat.zero_le _, fun l hl => ?_⟩
        have ex2 : ∀ b o, μ10 b = some o → (mup μ12 l (.lst [])) b = some o := fun b o h => by
          have : b ≠ l := fun z => by have := ex1 b o h; rw [z, hl] at this; cases this
          rw [mup_ne this]
          exact ex1 b o h
        have hll : (mup μ12 l (.lst [])) l = some (.lst []) := mup_same
        revert ex2 hll
        generalize mup μ12 l (.lst []) = μ13
        intro ex2 hll
        unfold gNe gD
        rw [vw_ref hll]
        refine ⟨rfl, rfl, ⟨rfl, rfl, by decide⟩, ?_⟩
        walk_at "x"
        exact ⟨Ts ++ [(⟨a, dd, md, kd, 1 + mm, rows', nx'⟩ : Tb)], _, _, _, _, _, _, _, _, _, _, _, by rw [List.length_append]; rfl, fun t h => (hA t h).ext fun b o _ e => ex2 b o e, ex2 _ _ hfA, deck_ext hd10 ex2 (by omega), rfl⟩
  · rintro ρ μ3 ⟨Ts, x3, x4, x5, x6, x7, x8, x9, x10, x11, x12, x13, hl3, hT, hf3, hd3, rfl⟩
    walk_at "x"
    refine made (rows := []) (nx := 0) (fun _ => rfl) List.nodup_nil (by decide) fun a dd μ4 ha hdd nad hl4 oth4 => ?_
    have oa : oin μ4 (.ref a) = some (cz.LiveTable, tfs dd 0) := by simp only [oin, hl4.ha]
    refine ⟨⟨_, oa⟩, a, dd, [], 0, rfl, hl4, fun μ5 ns1 pm1 _ ex5 => ?_⟩
    obtain rfl := pm1.eq_nil
    have hl5 : Live cz μ5 a dd [] 0 := ⟨ex5 _ _ hl4.ha, ex5 _ _ hl4.hd, hl4.nd, hl4.few⟩
    refine ⟨Nat.zero_le _, ?_⟩
    have oa5 : oin μ5 (.ref a) = some (cz.LiveTable, tfs dd 0) := by simp only [oin, hl5.ha]
    refine ne_tups (x := .tup []) rfl rfl (by decide) rfl rfl ?_
    walk_at "x"
    show (∃ fs, oin μ5 (.ref a) = some (cz.LiveTable, fs)) ∧ sp_len cz [.ref a] μ5 (isLen · · _)
    refine ⟨⟨_, oa5⟩, a, dd, [], 0, rfl, hl5, 0, rfl, by decide, by decide, ?_⟩
    walk_at "x"
    refine ⟨⟨_, oa5⟩, a, dd, [], 0, 0, rfl, hl5, _, rfl, ?_⟩
    walk_at "x"
    have no : List.lookup ("put" : Str) (tfs dd 0) = none := by simp only [tfs, List.lookup, show (("put" : Str) == "values_by_number") = false by decide +kernel, show (("put" : Str) == "next_number") = false by decide +kernel]
    unfold dMethV
    walk_at "x"
    refine ⟨⟨_, oa5, no⟩, by decide, a, dd, [], 0, [5], rfl, hl5, nofun, by decide, fun μ6 hl6 oth6 => ?_⟩
    have oa6 : oin μ6 (.ref a) = some (cz.LiveTable, tfs dd (0 + 1)) := by simp only [oin, hl6.ha]
    walk_at "x"
    refine ⟨⟨_, oa6⟩, a, dd, [(0, [5])], _, rfl, hl6, fun μ7 ns2 pm2 _ ex7 => ?_⟩
    obtain rfl := List.perm_singleton.mp pm2
    refine ⟨sz (by decide), sz (by decide), sz (by decide), ?_⟩
    refine ne_tups (x := .tup [.tup [.int 0, .tup [.int 5]]]) rfl rfl (by decide) rfl rfl ?_
    walk_at "x"
    refine made (rows := []) (nx := 0) (fun _ => rfl) List.nodup_nil (by decide) fun a2 dd2 μ8 ha2 hdd2 nad2 hl8 oth8 => ?_
    have oa8 : oin μ8 (.ref a2) = some (cz.LiveTable, tfs dd2 0) := by simp only [oin, hl8.ha]
    refine ⟨⟨_, oa8⟩, a2, dd2, [], 0, rfl, hl8, fun μ9 ns3 pm3 _ ex9 => ?_⟩
    obtain rfl := pm3.eq_nil
    refine ⟨Nat.zero_le _, ?_⟩
    refine eq_tups (x := .tup []) rfl rfl (by decide) rfl rfl ?_
    walk_at "x"
    refine made (rows := []) (nx := 0) (fun _ => rfl) List.nodup_nil (by decide) fun a3 dd3 μ10 ha3 hdd3 nad3 hl10 oth10 => ?_
    have oa10 : oin μ10 (.ref a3) = some (cz.LiveTable, tfs dd3 0) := by simp only [oin, hl10.ha]
    have no3 : List.lookup ("put" : Str) (tfs dd3 0) = none := by simp only [tfs, List.lookup, show (("put" : Str) == "values_by_number") = false by decide +kernel, show (("put" : Str) == "next_number") = false by decide +kernel]
    refine ⟨⟨_, oa10, no3⟩, by decide, a3, dd3, [], 0, [7], rfl, hl10, nofun, by decide, fun μ11 hl11 oth11 => ?_⟩
    refine eq_tups (x := .int 0) rfl rfl (by decide) rfl rfl ?_
    exact q _
end
end K21

set_option pp.maxSteps 60
set_option pp.deepTerms false
namespace K21
open PySem PySem.Spec PyProof.Rows L2 Dl
section
variable {K : PySem.W.Frag} {S C : Addr}
theorem kit_t (h2 : PySem.W.isClsIn K C = true) (h3 : PySem.W.typeIn K (.ref C) = some (.type "type")) (h4 : PySem.W.subIn K (.ref S) (.ref C) = some true) : PySem.W.kitOne K (.ref S) (.ref C) = some true := by
  have e2 : ((PySem.W.clsIn K C).isSome && PySem.W.typeIn K (.ref C) == some (.type "type")) = true := by
    have h2' : (PySem.W.clsIn K C).isSome = true := h2
    rw [h2', h3] <;> rfl
  unfold PySem.W.kitOne PySem.W.kitCls
  dsimp only
  rw [if_pos e2, h4]
  split <;> rfl
theorem kit_f (h2 : PySem.W.isClsIn K C = true) (h3 : PySem.W.typeIn K (.ref C) = some (.type "type")) (h4 : PySem.W.subIn K (.ref S) (.ref C) = some false) (h5 : PySem.W.subIn K (.ref S) (.ref S) = some true) : PySem.W.kitOne K (.ref S) (.ref C) = some false := by
  have e2 : ((PySem.W.clsIn K C).isSome && PySem.W.typeIn K (.ref C) == some (.type "type")) = true := by
    have h2' : (PySem.W.clsIn K C).isSome = true := h2
    rw [h2', h3] <;> rfl
  have ne : ¬ ((Value.ref S == Value.ref C) = true) := fun z => by
    have : Value.ref S = Value.ref C := beq_iff_eq.mp z
    rw [← this, h5] at h4
    cases h4
  unfold PySem.W.kitOne PySem.W.kitCls
  dsimp only
  rw [if_neg ne, if_pos e2, h4]
theorem kit_v (h4 : PySem.W.subIn K (.ref S) (.type "ValueError") = some true) : PySem.W.kitOne K (.ref S) (.type "ValueError") = some true := by
  unfold PySem.W.kitOne PySem.W.kitCls
  dsimp only
  rw [if_neg (by simp), if_pos (by decide +kernel), h4]
theorem bnd_cut {fd : FuncData} {ps ks : List Str} {n : Nat} {dd : List D} {ix : List Nat} (h : Bnd K fd ps n ks dd ix) (e : ∀ ds : List D, ds.length = n + ks.length → pick ix (ds ++ dd) = pick ix ds) : Bnd K fd ps n ks [] ix := by
  refine ⟨fun s us ws vs zs X h1 h2 r1 r2 => ?_⟩
  obtain ⟨vs', us', a1, a2, a3⟩ := h.to s us ws vs zs X h1 h2 r1 r2
  refine ⟨vs', us', a1, a2, fun {μ H ds} l => ?_⟩
  have hl := l.length
  rw [List.length_append, r1.length, r2.length, h1, h2] at hl
  rw [List.append_nil, ← e ds hl.symm]
  exact a3 l
/-- an error of the class at S is what «except S» names -/
theorem exm_self (h1 : PySem.W.subIn K (.ref S) (.type "BaseException") = some true) (h2 : PySem.W.isClsIn K S = true) (h3 : PySem.W.typeIn K (.ref S) = some (.type "type")) (h4 : PySem.W.subIn K (.ref S) (.ref S) = some true) : PySem.W.exmOne K (.ref S) (.ref S) = some true := by
  have e1 : (PySem.W.subIn K (.ref S) (.type "BaseException") == some true) = true := by rw [h1] <;> rfl
  have e2 : ((PySem.W.clsIn K S).isSome && PySem.W.typeIn K (.ref S) == some (.type "type")) = true := by
    have h2' : (PySem.W.clsIn K S).isSome = true := h2
    rw [h2', h3] <;> rfl
  show (if (PySem.W.subIn K (.ref S) (.type "BaseException") == some true) = true then (if ((PySem.W.clsIn K S).isSome && PySem.W.typeIn K (.ref S) == some (.type "type")) = true then PySem.W.subIn K (.ref S) (.ref S) else none) else none) = some true
  rw [if_pos e1, if_pos e2]
  exact h4
end
theorem all_mk {l : PySem.W.OpenLaw} {w : World} {K : PySem.W.Frag} {h : Heap} {mg : Str → Option Value} {fa : Addr} (X : K.In h) (G : h.Ns mainGlobals mg) (hfa : mg "law" = some (.ref fa)) {C_LiveTable : Addr}
    {f__law_deck : Addr} {od__law_deck an__law_deck : Option Addr} {sl__law_deck : Array (Option Value)} {oc__law_deck kV__law_deck dc__law_deck pm__law_deck cd__law_deck ct__law_deck : Value}
    {f__law_draw : Addr} {od__law_draw an__law_draw : Option Addr} {sl__law_draw : Array (Option Value)} {oc__law_draw kV__law_draw dc__law_draw pm__law_draw cd__law_draw ct__law_draw : Value}
    {f__law_pick : Addr} {od__law_pick an__law_pick : Option Addr} {sl__law_pick : Array (Option Value)} {oc__law_pick kV__law_pick dc__law_pick pm__law_pick cd__law_pick ct__law_pick : Value}
    {f__law_values : Addr} {od__law_values an__law_values : Option Addr} {sl__law_values : Array (Option Value)} {oc__law_values kV__law_values dc__law_values pm__law_values cd__law_values ct__law_values : Value}
    {f__law_rows : Addr} {od__law_rows an__law_rows : Option Addr} {sl__law_rows : Array (Option Value)} {oc__law_rows kV__law_rows dc__law_rows pm__law_rows cd__law_rows ct__law_rows : Value}
    {f__law_refused : Addr} {od__law_refused an__law_refused : Option Addr} {sl__law_refused : Array (Option Value)} {oc__law_refused kV__law_refused dc__law_refused pm__law_refused cd__law_refused ct__law_refused : Value}
    {f__law_alike : Addr} {od__law_alike an__law_alike : Option Addr} {sl__law_alike : Array (Option Value)} {oc__law_alike kV__law_alike dc__law_alike pm__law_alike cd__law_alike ct__law_alike : Value}
    {f__law_put : Addr} {od__law_put an__law_put : Option Addr} {sl__law_put : Array (Option Value)} {oc__law_put kV__law_put dc__law_put pm__law_put cd__law_put ct__law_put : Value}
    {f__law_deed : Addr} {od__law_deed an__law_deed : Option Addr} {sl__law_deed : Array (Option Value)} {oc__law_deed kV__law_deed dc__law_deed pm__law_deed cd__law_deed ct__law_deed : Value}
    {f_law : Addr} {od_law an_law : Option Addr} {sl_law : Array (Option Value)} {oc_law kV_law dc_law pm_law cd_law ct_law : Value}
    {f_NoRow___init__ : Addr} {od_NoRow___init__ an_NoRow___init__ : Option Addr} {sl_NoRow___init__ : Array (Option Value)} {oc_NoRow___init__ kV_NoRow___init__ dc_NoRow___init__ pm_NoRow___init__ cd_NoRow___init__ ct_NoRow___init__ : Value}
    {f_LiveTable___init__ : Addr} {od_LiveTable___init__ an_LiveTable___init__ : Option Addr} {sl_LiveTable___init__ : Array (Option Value)} {oc_LiveTable___init__ kV_LiveTable___init__ dc_LiveTable___init__ pm_LiveTable___init__ cd_LiveTable___init__ ct_LiveTable___init__ : Value}
    {T_LiveTable___init__ : Addr} {tc_LiveTable___init__ : Value} {td_LiveTable___init__ : Option Addr} {tn_LiveTable___init__ : Nat} {ts_LiveTable___init__ : Array (Option Value)}
    {tk_LiveTable___init___1 : Tok}
    {f_LiveTable_rows : Addr} {od_LiveTable_rows an_LiveTable_rows : Option Addr} {sl_LiveTable_rows : Array (Option Value)} {oc_LiveTable_rows kV_LiveTable_rows dc_LiveTable_rows pm_LiveTable_rows cd_LiveTable_rows ct_LiveTable_rows : Value}
    {g_LiveTable_rows : Addr} {gr_LiveTable_rows : List Value}
    {f_LiveTable___len__ : Addr} {od_LiveTable___len__ an_LiveTable___len__ : Option Addr} {sl_LiveTable___len__ : Array (Option Value)} {oc_LiveTable___len__ kV_LiveTable___len__ dc_LiveTable___len__ pm_LiveTable___len__ cd_LiveTable___len__ ct_LiveTable___len__ : Value}
    {f_LiveTable___contains__ : Addr} {od_LiveTable___contains__ an_LiveTable___contains__ : Option Addr} {sl_LiveTable___contains__ : Array (Option Value)} {oc_LiveTable___contains__ kV_LiveTable___contains__ dc_LiveTable___contains__ pm_LiveTable___contains__ cd_LiveTable___contains__ ct_LiveTable___contains__ : Value}
    {f_LiveTable_put : Addr} {od_LiveTable_put an_LiveTable_put : Option Addr} {sl_LiveTable_put : Array (Option Value)} {oc_LiveTable_put kV_LiveTable_put dc_LiveTable_put pm_LiveTable_put cd_LiveTable_put ct_LiveTable_put : Value}
    {f_LiveTable_change : Addr} {od_LiveTable_change an_LiveTable_change : Option Addr} {sl_LiveTable_change : Array (Option Value)} {oc_LiveTable_change kV_LiveTable_change dc_LiveTable_change pm_LiveTable_change cd_LiveTable_change ct_LiveTable_change : Value}
    {f_LiveTable_drop : Addr} {od_LiveTable_drop an_LiveTable_drop : Option Addr} {sl_LiveTable_drop : Array (Option Value)} {oc_LiveTable_drop kV_LiveTable_drop dc_LiveTable_drop pm_LiveTable_drop cd_LiveTable_drop ct_LiveTable_drop : Value} {C_NoRow C_NoTable C_WakeError dt_ : Addr} {dn_ : Nat}
    {nm qq : Str} {NN : Addr} {bs : List Value} {sn : List Str} {sub : List Value} {ab : Bool} {col : Option Bool} {dd : Option Addr} {m0 m1 m2 m3 m5 : Option Value}
    (o_n : PySem.W.specialIn K (.builtin "object.__class__") "__get__" = some (some (.builtin "getset_descriptor.__get__")))
    (o_t : PySem.W.takesIn K (.builtin "object.__class__") = some true)
    (a_LiveTable : PySem.W.nsIn K mainGlobals "LiveTable" = some (some (.ref C_LiveTable)))
    (pg_LiveTable : PySem.W.plainGet K C_LiveTable Str.empty = true)
    (hd_LiveTable : PySem.W.hasDictIn K C_LiveTable = true)
    (po_LiveTable : PySem.W.plainOver K C_LiveTable = true)
    (sa_LiveTable : PySem.W.findIn K (.ref C_LiveTable) "__setattr__" = some (some (.builtin "object.__setattr__")))
    (mk_LiveTable : PySem.W.makesIn K C_LiveTable = true)
    (kc_LiveTable : PySem.W.keepIn K (.ref C_LiveTable) = true)
    (oa_LiveTable : PySem.W.findIn K (.ref C_LiveTable) "__class__" = some (some (.builtin "object.__class__")))
    (om_LiveTable : PySem.W.mroIn K C_LiveTable (.type "object") = some true)
    (sf_LiveTable : PySem.W.selfFirst K C_LiveTable = true)
    (ib_LiveTable : PySem.W.isClsIn K C_LiveTable = true)
    (it_LiveTable : PySem.W.typeIn K (.ref C_LiveTable) = some (.type "type"))
    (a__law_deck : PySem.W.nsIn K mainGlobals "_law_deck" = some (some (.ref f__law_deck)))
    (l__law_deck : K.lookup f__law_deck = some ⟨oc__law_deck, od__law_deck, .func (PySem.W.fnOf "_law_deck" "_law_deck" (defArgs s__law_deck) (defBody s__law_deck) (defScope s__law_deck) .none kV__law_deck dc__law_deck pm__law_deck an__law_deck cd__law_deck ct__law_deck), sl__law_deck⟩)
    (d__law_deck : PySem.W.codeIn K cd__law_deck "_law_deck" = true)
    (k__law_deck : PySem.W.keepIn K (.ref f__law_deck) = true)
    (a__law_draw : PySem.W.nsIn K mainGlobals "_law_draw" = some (some (.ref f__law_draw)))
    (l__law_draw : K.lookup f__law_draw = some ⟨oc__law_draw, od__law_draw, .func (PySem.W.fnOf "_law_draw" "_law_draw" (defArgs s__law_draw) (defBody s__law_draw) (defScope s__law_draw) .none kV__law_draw dc__law_draw pm__law_draw an__law_draw cd__law_draw ct__law_draw), sl__law_draw⟩)
    (d__law_draw : PySem.W.codeIn K cd__law_draw "_law_draw" = true)
    (k__law_draw : PySem.W.keepIn K (.ref f__law_draw) = true)
    (a__law_pick : PySem.W.nsIn K mainGlobals "_law_pick" = some (some (.ref f__law_pick)))
    (l__law_pick : K.lookup f__law_pick = some ⟨oc__law_pick, od__law_pick, .func (PySem.W.fnOf "_law_pick" "_law_pick" (defArgs s__law_pick) (defBody s__law_pick) (defScope s__law_pick) .none kV__law_pick dc__law_pick pm__law_pick an__law_pick cd__law_pick ct__law_pick), sl__law_pick⟩)
    (d__law_pick : PySem.W.codeIn K cd__law_pick "_law_pick" = true)
    (k__law_pick : PySem.W.keepIn K (.ref f__law_pick) = true)
    (a__law_values : PySem.W.nsIn K mainGlobals "_law_values" = some (some (.ref f__law_values)))
    (l__law_values : K.lookup f__law_values = some ⟨oc__law_values, od__law_values, .func (PySem.W.fnOf "_law_values" "_law_values" (defArgs s__law_values) (defBody s__law_values) (defScope s__law_values) .none kV__law_values dc__law_values pm__law_values an__law_values cd__law_values ct__law_values), sl__law_values⟩)
    (d__law_values : PySem.W.codeIn K cd__law_values "_law_values" = true)
    (k__law_values : PySem.W.keepIn K (.ref f__law_values) = true)
    (a__law_rows : PySem.W.nsIn K mainGlobals "_law_rows" = some (some (.ref f__law_rows)))
    (l__law_rows : K.lookup f__law_rows = some ⟨oc__law_rows, od__law_rows, .func (PySem.W.fnOf "_law_rows" "_law_rows" (defArgs s__law_rows) (defBody s__law_rows) (defScope s__law_rows) .none kV__law_rows dc__law_rows pm__law_rows an__law_rows cd__law_rows ct__law_rows), sl__law_rows⟩)
    (d__law_rows : PySem.W.codeIn K cd__law_rows "_law_rows" = true)
    (k__law_rows : PySem.W.keepIn K (.ref f__law_rows) = true)
    (a__law_refused : PySem.W.nsIn K mainGlobals "_law_refused" = some (some (.ref f__law_refused)))
    (l__law_refused : K.lookup f__law_refused = some ⟨oc__law_refused, od__law_refused, .func (PySem.W.fnOf "_law_refused" "_law_refused" (defArgs s__law_refused) (defBody s__law_refused) (defScope s__law_refused) .none kV__law_refused dc__law_refused pm__law_refused an__law_refused cd__law_refused ct__law_refused), sl__law_refused⟩)
    (d__law_refused : PySem.W.codeIn K cd__law_refused "_law_refused" = true)
    (k__law_refused : PySem.W.keepIn K (.ref f__law_refused) = true)
    (a__law_alike : PySem.W.nsIn K mainGlobals "_law_alike" = some (some (.ref f__law_alike)))
    (l__law_alike : K.lookup f__law_alike = some ⟨oc__law_alike, od__law_alike, .func (PySem.W.fnOf "_law_alike" "_law_alike" (defArgs s__law_alike) (defBody s__law_alike) (defScope s__law_alike) .none kV__law_alike dc__law_alike pm__law_alike an__law_alike cd__law_alike ct__law_alike), sl__law_alike⟩)
    (d__law_alike : PySem.W.codeIn K cd__law_alike "_law_alike" = true)
    (k__law_alike : PySem.W.keepIn K (.ref f__law_alike) = true)
    (a__law_put : PySem.W.nsIn K mainGlobals "_law_put" = some (some (.ref f__law_put)))
    (l__law_put : K.lookup f__law_put = some ⟨oc__law_put, od__law_put, .func (PySem.W.fnOf "_law_put" "_law_put" (defArgs s__law_put) (defBody s__law_put) (defScope s__law_put) .none kV__law_put dc__law_put pm__law_put an__law_put cd__law_put ct__law_put), sl__law_put⟩)
    (d__law_put : PySem.W.codeIn K cd__law_put "_law_put" = true)
    (k__law_put : PySem.W.keepIn K (.ref f__law_put) = true)
    (a__law_deed : PySem.W.nsIn K mainGlobals "_law_deed" = some (some (.ref f__law_deed)))
    (l__law_deed : K.lookup f__law_deed = some ⟨oc__law_deed, od__law_deed, .func (PySem.W.fnOf "_law_deed" "_law_deed" (defArgs s__law_deed) (defBody s__law_deed) (defScope s__law_deed) .none kV__law_deed dc__law_deed pm__law_deed an__law_deed cd__law_deed ct__law_deed), sl__law_deed⟩)
    (d__law_deed : PySem.W.codeIn K cd__law_deed "_law_deed" = true)
    (k__law_deed : PySem.W.keepIn K (.ref f__law_deed) = true)
    (a_law : PySem.W.nsIn K mainGlobals "law" = some (some (.ref f_law)))
    (l_law : K.lookup f_law = some ⟨oc_law, od_law, .func (PySem.W.fnOf "law" "law" (defArgs s_law) (defBody s_law) (defScope s_law) .none kV_law dc_law pm_law an_law cd_law ct_law), sl_law⟩)
    (d_law : PySem.W.codeIn K cd_law "law" = true)
    (k_law : PySem.W.keepIn K (.ref f_law) = true)
    (m_NoRow___init__ : PySem.W.findIn K (.ref C_NoRow) "__init__" = some (some (.ref f_NoRow___init__)))
    (l_NoRow___init__ : K.lookup f_NoRow___init__ = some ⟨oc_NoRow___init__, od_NoRow___init__, .func (PySem.W.fnOf "__init__" "NoRow.__init__" (defArgs s_NoRow___init__) (defBody s_NoRow___init__) (defScope s_NoRow___init__) .none kV_NoRow___init__ dc_NoRow___init__ pm_NoRow___init__ an_NoRow___init__ cd_NoRow___init__ ct_NoRow___init__), sl_NoRow___init__⟩)
    (d_NoRow___init__ : PySem.W.codeIn K cd_NoRow___init__ "NoRow.__init__" = true)
    (k_NoRow___init__ : PySem.W.keepIn K (.ref f_NoRow___init__) = true)
    (n_NoRow___init__ : PySem.W.isFn K (.ref f_NoRow___init__) = true)
    (m_LiveTable___init__ : PySem.W.findIn K (.ref C_LiveTable) "__init__" = some (some (.ref f_LiveTable___init__)))
    (l_LiveTable___init__ : K.lookup f_LiveTable___init__ = some ⟨oc_LiveTable___init__, od_LiveTable___init__, .func (PySem.W.fnOf "__init__" "LiveTable.__init__" (defArgs s_LiveTable___init__) (defBody s_LiveTable___init__) (defScope s_LiveTable___init__) (.ref T_LiveTable___init__) kV_LiveTable___init__ dc_LiveTable___init__ pm_LiveTable___init__ an_LiveTable___init__ cd_LiveTable___init__ ct_LiveTable___init__), sl_LiveTable___init__⟩)
    (d_LiveTable___init__ : PySem.W.codeIn K cd_LiveTable___init__ "LiveTable.__init__" = true)
    (k_LiveTable___init__ : PySem.W.keepIn K (.ref f_LiveTable___init__) = true)
    (n_LiveTable___init__ : PySem.W.isFn K (.ref f_LiveTable___init__) = true)
    (t_LiveTable___init__ : K.lookup T_LiveTable___init__ = some ⟨tc_LiveTable___init__, td_LiveTable___init__, .seq ([.ref dt_, .int 0 tk_LiveTable___init___1] : List Value).toArray tn_LiveTable___init__, ts_LiveTable___init__⟩)
    (m_LiveTable_rows : PySem.W.findIn K (.ref C_LiveTable) "rows" = some (some (.ref g_LiveTable_rows)))
    (mg_LiveTable_rows : PySem.W.specialIn K (.ref g_LiveTable_rows) "__get__" = some (some (.builtin "property.__get__")))
    (mt_LiveTable_rows : PySem.W.takesIn K (.ref g_LiveTable_rows) = some true)
    (mr_LiveTable_rows : PySem.W.recIn K g_LiveTable_rows "property" = some (.ref f_LiveTable_rows :: gr_LiveTable_rows))
    (l_LiveTable_rows : K.lookup f_LiveTable_rows = some ⟨oc_LiveTable_rows, od_LiveTable_rows, .func (PySem.W.fnOf "rows" "LiveTable.rows" (defArgs s_LiveTable_rows) (defBody s_LiveTable_rows) (defScope s_LiveTable_rows) .none kV_LiveTable_rows dc_LiveTable_rows pm_LiveTable_rows an_LiveTable_rows cd_LiveTable_rows ct_LiveTable_rows), sl_LiveTable_rows⟩)
    (d_LiveTable_rows : PySem.W.codeIn K cd_LiveTable_rows "LiveTable.rows" = true)
    (k_LiveTable_rows : PySem.W.keepIn K (.ref f_LiveTable_rows) = true)
    (n_LiveTable_rows : PySem.W.isFn K (.ref f_LiveTable_rows) = true)
    (m_LiveTable___len__ : PySem.W.findIn K (.ref C_LiveTable) "__len__" = some (some (.ref f_LiveTable___len__)))
    (l_LiveTable___len__ : K.lookup f_LiveTable___len__ = some ⟨oc_LiveTable___len__, od_LiveTable___len__, .func (PySem.W.fnOf "__len__" "LiveTable.__len__" (defArgs s_LiveTable___len__) (defBody s_LiveTable___len__) (defScope s_LiveTable___len__) .none kV_LiveTable___len__ dc_LiveTable___len__ pm_LiveTable___len__ an_LiveTable___len__ cd_LiveTable___len__ ct_LiveTable___len__), sl_LiveTable___len__⟩)
    (d_LiveTable___len__ : PySem.W.codeIn K cd_LiveTable___len__ "LiveTable.__len__" = true)
    (k_LiveTable___len__ : PySem.W.keepIn K (.ref f_LiveTable___len__) = true)
    (n_LiveTable___len__ : PySem.W.isFn K (.ref f_LiveTable___len__) = true)
    (m_LiveTable___contains__ : PySem.W.findIn K (.ref C_LiveTable) "__contains__" = some (some (.ref f_LiveTable___contains__)))
    (l_LiveTable___contains__ : K.lookup f_LiveTable___contains__ = some ⟨oc_LiveTable___contains__, od_LiveTable___contains__, .func (PySem.W.fnOf "__contains__" "LiveTable.__contains__" (defArgs s_LiveTable___contains__) (defBody s_LiveTable___contains__) (defScope s_LiveTable___contains__) .none kV_LiveTable___contains__ dc_LiveTable___contains__ pm_LiveTable___contains__ an_LiveTable___contains__ cd_LiveTable___contains__ ct_LiveTable___contains__), sl_LiveTable___contains__⟩)
    (d_LiveTable___contains__ : PySem.W.codeIn K cd_LiveTable___contains__ "LiveTable.__contains__" = true)
    (k_LiveTable___contains__ : PySem.W.keepIn K (.ref f_LiveTable___contains__) = true)
    (n_LiveTable___contains__ : PySem.W.isFn K (.ref f_LiveTable___contains__) = true)
    (m_LiveTable_put : PySem.W.findIn K (.ref C_LiveTable) "put" = some (some (.ref f_LiveTable_put)))
    (l_LiveTable_put : K.lookup f_LiveTable_put = some ⟨oc_LiveTable_put, od_LiveTable_put, .func (PySem.W.fnOf "put" "LiveTable.put" (defArgs s_LiveTable_put) (defBody s_LiveTable_put) (defScope s_LiveTable_put) .none kV_LiveTable_put dc_LiveTable_put pm_LiveTable_put an_LiveTable_put cd_LiveTable_put ct_LiveTable_put), sl_LiveTable_put⟩)
    (d_LiveTable_put : PySem.W.codeIn K cd_LiveTable_put "LiveTable.put" = true)
    (k_LiveTable_put : PySem.W.keepIn K (.ref f_LiveTable_put) = true)
    (n_LiveTable_put : PySem.W.isFn K (.ref f_LiveTable_put) = true)
    (m_LiveTable_change : PySem.W.findIn K (.ref C_LiveTable) "change" = some (some (.ref f_LiveTable_change)))
    (l_LiveTable_change : K.lookup f_LiveTable_change = some ⟨oc_LiveTable_change, od_LiveTable_change, .func (PySem.W.fnOf "change" "LiveTable.change" (defArgs s_LiveTable_change) (defBody s_LiveTable_change) (defScope s_LiveTable_change) .none kV_LiveTable_change dc_LiveTable_change pm_LiveTable_change an_LiveTable_change cd_LiveTable_change ct_LiveTable_change), sl_LiveTable_change⟩)
    (d_LiveTable_change : PySem.W.codeIn K cd_LiveTable_change "LiveTable.change" = true)
    (k_LiveTable_change : PySem.W.keepIn K (.ref f_LiveTable_change) = true)
    (n_LiveTable_change : PySem.W.isFn K (.ref f_LiveTable_change) = true)
    (m_LiveTable_drop : PySem.W.findIn K (.ref C_LiveTable) "drop" = some (some (.ref f_LiveTable_drop)))
    (l_LiveTable_drop : K.lookup f_LiveTable_drop = some ⟨oc_LiveTable_drop, od_LiveTable_drop, .func (PySem.W.fnOf "drop" "LiveTable.drop" (defArgs s_LiveTable_drop) (defBody s_LiveTable_drop) (defScope s_LiveTable_drop) .none kV_LiveTable_drop dc_LiveTable_drop pm_LiveTable_drop an_LiveTable_drop cd_LiveTable_drop ct_LiveTable_drop), sl_LiveTable_drop⟩)
    (d_LiveTable_drop : PySem.W.codeIn K cd_LiveTable_drop "LiveTable.drop" = true)
    (k_LiveTable_drop : PySem.W.keepIn K (.ref f_LiveTable_drop) = true)
    (n_LiveTable_drop : PySem.W.isFn K (.ref f_LiveTable_drop) = true)
    (z_ValueError : PySem.W.nsIn K mainGlobals "ValueError" = some none) (z_dict : PySem.W.nsIn K mainGlobals "dict" = some none) (z_isinstance : PySem.W.nsIn K mainGlobals "isinstance" = some none) (z_len : PySem.W.nsIn K mainGlobals "len" = some none) (z_list : PySem.W.nsIn K mainGlobals "list" = some none) (z_range : PySem.W.nsIn K mainGlobals "range" = some none) (z_repr : PySem.W.nsIn K mainGlobals "repr" = some none) (z_set : PySem.W.nsIn K mainGlobals "set" = some none) (z_sorted : PySem.W.nsIn K mainGlobals "sorted" = some none) (z_tuple : PySem.W.nsIn K mainGlobals "tuple" = some none) (a_NoRow : PySem.W.nsIn K mainGlobals "NoRow" = some (some (.ref C_NoRow))) (a_NoTable : PySem.W.nsIn K mainGlobals "NoTable" = some (some (.ref C_NoTable))) (a_WakeError : PySem.W.nsIn K mainGlobals "WakeError" = some (some (.ref C_WakeError))) (dk_ : K.lookup dt_ = some ⟨.type "tuple", none, .seq ([] : List Value).toArray dn_, #[]⟩) (xL : K.lookup C_NoRow = some (excClassObj nm qq C_NoRow NN bs [.ref C_WakeError, .type "ValueError", .type "Exception", .type "BaseException", .type "object"] true sn sub ab col dd m0 m1 m2 m3 m5 "ValueError.__new__")) (x_sa : PySem.W.findIn K (.ref C_NoRow) "__setattr__" = some (some (.builtin "object.__setattr__"))) (x_ga : PySem.W.findIn K (.ref C_NoRow) "__getattribute__" = some (some (.builtin "BaseException.__getattribute__"))) (x_gg : PySem.W.findIn K (.ref C_NoRow) "__getattr__" = some none) (x_n1 : PySem.W.findIn K (.ref C_NoRow) "name" = some none) (x_n2 : PySem.W.findIn K (.ref C_NoRow) "number" = some none) (x_kC : PySem.W.keepIn K (.ref C_NoRow) = true) (x_eC : PySem.W.subIn K (.ref C_NoRow) (.type "BaseException") = some true) (x_tC : PySem.W.typeIn K (.ref C_NoRow) = some (.type "type")) (x_hC : PySem.W.hasDictIn K C_NoRow = true) (x_iC : PySem.W.isClsIn K C_NoRow = true) (x_sC : PySem.W.subIn K (.ref C_NoRow) (.ref C_NoRow) = some true) (x_oa : PySem.W.findIn K (.ref C_NoRow) "__class__" = some (some (.builtin "object.__class__"))) (x_om : PySem.W.mroIn K C_NoRow (.type "object") = some true) (x_sW : PySem.W.subIn K (.ref C_NoRow) (.ref C_WakeError) = some true) (x_sV : PySem.W.subIn K (.ref C_NoRow) (.type "ValueError") = some true) (x_sT : PySem.W.subIn K (.ref C_NoRow) (.ref C_NoTable) = some false) (x_iNoTable : PySem.W.isClsIn K C_NoTable = true) (x_tNoTable : PySem.W.typeIn K (.ref C_NoTable) = some (.type "type")) (x_iWakeError : PySem.W.isClsIn K C_WakeError = true) (x_tWakeError : PySem.W.typeIn K (.ref C_WakeError) = some (.type "type")) (b_rd : PySem.W.readsIn K C_WakeError (.type "type") = true) (b_ga : PySem.W.specialIn K (.ref C_WakeError) "__getattribute__" = some (some (.builtin "type.__getattribute__"))) (b_at : PySem.W.findCls K (.ref C_WakeError) (.type "type") "__init__" = some (.val (.builtin "ValueError.__init__"))) (i_t : PySem.W.typeIn K (.ref f_NoRow___init__) = some (.type "function")) (y_1 : PySem.W.findIn K (.ref C_LiveTable) "values_by_number" = some none) (y_2 : PySem.W.findIn K (.ref C_LiveTable) "next_number" = some none) :
    ∃ fd : FuncData, (∀ (s : Shared) (v : Value), BindsTo s fd ⟨[v], []⟩ [("_law_script", v)]) ∧ ∀ base : Heap, K.In base → base.Ns mainGlobals mg → FnG l.prog w K mg base (CX l.prog w) 6 fa fd ["_law_script"] (upX K spLaw) := by
  have e := hfa.symm.trans (PySem.W.mg_of X G a_law)
  cases e
  skip
  have T : Txt mg K (Cs.mk C_LiveTable C_NoRow C_NoTable C_WakeError) := ⟨PySem.W.mg_of X G a_LiveTable, PySem.W.mg_of X G a_NoRow, PySem.W.mg_of X G a_NoTable, PySem.W.mg_of X G a_WakeError, PySem.W.mg_none_of X G z_ValueError, PySem.W.mg_none_of X G z_dict, PySem.W.mg_none_of X G z_isinstance, PySem.W.mg_none_of X G z_len, PySem.W.mg_none_of X G z_list, PySem.W.mg_none_of X G z_range, PySem.W.mg_none_of X G z_repr, PySem.W.mg_none_of X G z_set, PySem.W.mg_none_of X G z_sorted, PySem.W.mg_none_of X G z_tuple⟩
  have kt_ : ∀ {μ : Mu} {H : Hp}, Da K μ H (.ref dt_) (.tup []) := fun {μ H} => .tup (.inr ⟨_, _, _, dk_, rfl, ⟨rfl, rfl⟩, rfl, by decide, .nil⟩) .nil
  have ic_LiveTable : ((PySem.W.clsIn K C_LiveTable).isSome && PySem.W.typeIn K (.ref C_LiveTable) == some (.type "type")) = true := by rw [it_LiveTable, ← isCls_eq, ib_LiveTable]; rfl
  have cl_LiveTable : Cls K C_LiveTable := ⟨pg_LiveTable, hd_LiveTable, po_LiveTable, sa_LiveTable⟩
  have ow_LiveTable : OwnTy K C_LiveTable := ⟨cl_LiveTable, oa_LiveTable, o_n, o_t, om_LiveTable⟩
  have F__law_deck := fun_mk (st := s__law_deck) l__law_deck d__law_deck k__law_deck
  have b__law_deck := F__law_deck.binds (ps := ["_law_script"]) fun _ _ _ _ _ _ us hl => match us, hl with | [_], _ => rfl
  have F__law_draw := fun_mk (st := s__law_draw) l__law_draw d__law_draw k__law_draw
  have b__law_draw := F__law_draw.binds (ps := ["_law_deck_here", "_law_many"]) fun _ _ _ _ _ _ us hl => match us, hl with | [_, _], _ => rfl
  have F__law_pick := fun_mk (st := s__law_pick) l__law_pick d__law_pick k__law_pick
  have b__law_pick := F__law_pick.binds (ps := ["_law_deck_here", "_law_some"]) fun _ _ _ _ _ _ us hl => match us, hl with | [_, _], _ => rfl
  have F__law_values := fun_mk (st := s__law_values) l__law_values d__law_values k__law_values
  have b__law_values := F__law_values.binds (ps := ["_law_deck_here", "_law_many"]) fun _ _ _ _ _ _ us hl => match us, hl with | [_, _], _ => rfl
  have F__law_rows := fun_mk (st := s__law_rows) l__law_rows d__law_rows k__law_rows
  have b__law_rows := F__law_rows.binds (ps := ["_law_deck_here", "_law_many"]) fun _ _ _ _ _ _ us hl => match us, hl with | [_, _], _ => rfl
  have F__law_refused := fun_mk (st := s__law_refused) l__law_refused d__law_refused k__law_refused
  have b__law_refused := F__law_refused.binds (ps := ["_law_table", "_law_place", "_law_fresh"]) fun _ _ _ _ _ _ us hl => match us, hl with | [_, _, _], _ => rfl
  have F__law_alike := fun_mk (st := s__law_alike) l__law_alike d__law_alike k__law_alike
  have b__law_alike := F__law_alike.binds (ps := ["_law_table", "_law_model"]) fun _ _ _ _ _ _ us hl => match us, hl with | [_, _], _ => rfl
  have F__law_put := fun_mk (st := s__law_put) l__law_put d__law_put k__law_put
  have b__law_put := F__law_put.binds (ps := ["_law_deck_here", "_law_table", "_law_model"]) fun _ _ _ _ _ _ us hl => match us, hl with | [_, _, _], _ => rfl
  have F__law_deed := fun_mk (st := s__law_deed) l__law_deed d__law_deed k__law_deed
  have b__law_deed := F__law_deed.binds (ps := ["_law_deck_here", "_law_table", "_law_model"]) fun _ _ _ _ _ _ us hl => match us, hl with | [_, _, _], _ => rfl
  have F_law := fun_mk (st := s_law) l_law d_law k_law
  have b_law := F_law.binds (ps := ["_law_script"]) fun _ _ _ _ _ _ us hl => match us, hl with | [_], _ => rfl
  have F_NoRow___init__ := fun_mk (st := s_NoRow___init__) l_NoRow___init__ d_NoRow___init__ k_NoRow___init__
  have me_NoRow___init__ : Meth K C_NoRow "__init__" f_NoRow___init__ := ⟨m_NoRow___init__, n_NoRow___init__, k_NoRow___init__⟩
  have b_NoRow___init__ := F_NoRow___init__.binds (ps := ["self", "name", "number"]) fun _ _ _ _ _ _ us hl => match us, hl with | [_, _, _], _ => rfl
  have F_LiveTable___init__ := funD_mk (st := s_LiveTable___init__) (dvs := [.ref dt_, .int 0]) (kws := []) l_LiveTable___init__ d_LiveTable___init__ k_LiveTable___init__ (dfl_mk t_LiveTable___init__ rfl (.cons rfl (.cons ⟨_, rfl⟩ .nil)) (by simp)) (.inl rfl)
  have me_LiveTable___init__ : Meth K C_LiveTable "__init__" f_LiveTable___init__ := ⟨m_LiveTable___init__, n_LiveTable___init__, k_LiveTable___init__⟩
  have F_LiveTable_rows := fun_mk (st := s_LiveTable_rows) l_LiveTable_rows d_LiveTable_rows k_LiveTable_rows
  have po_LiveTable_rows : PropOf K C_LiveTable "rows" g_LiveTable_rows f_LiveTable_rows := ⟨m_LiveTable_rows, mg_LiveTable_rows, mt_LiveTable_rows, ⟨_, mr_LiveTable_rows⟩⟩
  have b_LiveTable_rows := F_LiveTable_rows.binds (ps := ["self"]) fun _ _ _ _ _ _ us hl => match us, hl with | [_], _ => rfl
  have F_LiveTable___len__ := fun_mk (st := s_LiveTable___len__) l_LiveTable___len__ d_LiveTable___len__ k_LiveTable___len__
  have me_LiveTable___len__ : Meth K C_LiveTable "__len__" f_LiveTable___len__ := ⟨m_LiveTable___len__, n_LiveTable___len__, k_LiveTable___len__⟩
  have b_LiveTable___len__ := F_LiveTable___len__.binds (ps := ["self"]) fun _ _ _ _ _ _ us hl => match us, hl with | [_], _ => rfl
  have F_LiveTable___contains__ := fun_mk (st := s_LiveTable___contains__) l_LiveTable___contains__ d_LiveTable___contains__ k_LiveTable___contains__
  have me_LiveTable___contains__ : Meth K C_LiveTable "__contains__" f_LiveTable___contains__ := ⟨m_LiveTable___contains__, n_LiveTable___contains__, k_LiveTable___contains__⟩
  have b_LiveTable___contains__ := F_LiveTable___contains__.binds (ps := ["self", "number"]) fun _ _ _ _ _ _ us hl => match us, hl with | [_, _], _ => rfl
  have F_LiveTable_put := fun_mk (st := s_LiveTable_put) l_LiveTable_put d_LiveTable_put k_LiveTable_put
  have me_LiveTable_put : Meth K C_LiveTable "put" f_LiveTable_put := ⟨m_LiveTable_put, n_LiveTable_put, k_LiveTable_put⟩
  have F_LiveTable_change := fun_mk (st := s_LiveTable_change) l_LiveTable_change d_LiveTable_change k_LiveTable_change
  have me_LiveTable_change : Meth K C_LiveTable "change" f_LiveTable_change := ⟨m_LiveTable_change, n_LiveTable_change, k_LiveTable_change⟩
  have b_LiveTable_change := F_LiveTable_change.binds (ps := ["self", "number", "values"]) fun _ _ _ _ _ _ us hl => match us, hl with | [_, _, _], _ => rfl
  have F_LiveTable_drop := fun_mk (st := s_LiveTable_drop) l_LiveTable_drop d_LiveTable_drop k_LiveTable_drop
  have me_LiveTable_drop : Meth K C_LiveTable "drop" f_LiveTable_drop := ⟨m_LiveTable_drop, n_LiveTable_drop, k_LiveTable_drop⟩
  have b_LiveTable_drop := F_LiveTable_drop.binds (ps := ["self", "number"]) fun _ _ _ _ _ _ us hl => match us, hl with | [_, _], _ => rfl
  have B_LiveTable___init___0 := Dl.FunD.bnd1 (ps := ["self", "rows", "following"]) F_LiveTable___init__ 1 [] [0, 1, 2] (by simp) (.cons (fun _ _ => kt_) (.cons (fun _ _ => .int _) .nil)) fun _ _ _ _ _ _ _ us ws its h1 h2 h3 => match us, ws, its, h1, h2, h3 with | [_], [], [_, _], _, _, _ => ⟨_, rfl, rfl⟩
  have B_LiveTable___init___0_following_rows := Dl.FunD.bnd1 (ps := ["self", "rows", "following"]) F_LiveTable___init__ 1 ["following", "rows"] [0, 2, 1] (by simp) (.cons (fun _ _ => kt_) (.cons (fun _ _ => .int _) .nil)) fun _ _ _ _ _ _ _ us ws its h1 h2 h3 => match us, ws, its, h1, h2, h3 with | [_], [_, _], [_, _], _, _, _ => ⟨_, rfl, rfl⟩
  have B_LiveTable___init___2 := Dl.FunD.bnd1 (ps := ["self", "rows", "following"]) F_LiveTable___init__ 3 [] [0, 1, 2] (by simp) (.cons (fun _ _ => kt_) (.cons (fun _ _ => .int _) .nil)) fun _ _ _ _ _ _ _ us ws its h1 h2 h3 => match us, ws, its, h1, h2, h3 with | [_, _, _], [], [_, _], _, _, _ => ⟨_, rfl, rfl⟩
  have B_LiveTable_change_0_values_number := Dl.Fun.bnd (ps := ["self", "number", "values"]) F_LiveTable_change 1 ["values", "number"] [0, 2, 1] fun _ _ _ _ _ _ us ws h1 h2 => match us, ws, h1, h2 with | [_], [_, _], _, _ => rfl
  have B_LiveTable_change_2 := Dl.Fun.bnd (ps := ["self", "number", "values"]) F_LiveTable_change 3 [] [0, 1, 2] fun _ _ _ _ _ _ us ws h1 h2 => match us, ws, h1, h2 with | [_, _, _], [], _, _ => rfl
  have B_LiveTable_drop_0_number := Dl.Fun.bnd (ps := ["self", "number"]) F_LiveTable_drop 1 ["number"] [0, 1] fun _ _ _ _ _ _ us ws h1 h2 => match us, ws, h1, h2 with | [_], [_], _, _ => rfl
  have B_LiveTable_drop_1 := Dl.Fun.bnd (ps := ["self", "number"]) F_LiveTable_drop 2 [] [0, 1] fun _ _ _ _ _ _ us ws h1 h2 => match us, ws, h1, h2 with | [_, _], [], _, _ => rfl
  have B__law_alike_2 := Dl.Fun.bnd (ps := ["_law_table", "_law_model"]) F__law_alike 2 [] [0, 1] fun _ _ _ _ _ _ us ws h1 h2 => match us, ws, h1, h2 with | [_, _], [], _, _ => rfl
  have B__law_deck_1 := Dl.Fun.bnd (ps := ["_law_script"]) F__law_deck 1 [] [0] fun _ _ _ _ _ _ us ws h1 h2 => match us, ws, h1, h2 with | [_], [], _, _ => rfl
  have B__law_deed_3 := Dl.Fun.bnd (ps := ["_law_deck_here", "_law_table", "_law_model"]) F__law_deed 3 [] [0, 1, 2] fun _ _ _ _ _ _ us ws h1 h2 => match us, ws, h1, h2 with | [_, _, _], [], _, _ => rfl
  have B__law_draw_2 := Dl.Fun.bnd (ps := ["_law_deck_here", "_law_many"]) F__law_draw 2 [] [0, 1] fun _ _ _ _ _ _ us ws h1 h2 => match us, ws, h1, h2 with | [_, _], [], _, _ => rfl
  have B__law_pick_2 := Dl.Fun.bnd (ps := ["_law_deck_here", "_law_some"]) F__law_pick 2 [] [0, 1] fun _ _ _ _ _ _ us ws h1 h2 => match us, ws, h1, h2 with | [_, _], [], _, _ => rfl
  have B__law_put_3 := Dl.Fun.bnd (ps := ["_law_deck_here", "_law_table", "_law_model"]) F__law_put 3 [] [0, 1, 2] fun _ _ _ _ _ _ us ws h1 h2 => match us, ws, h1, h2 with | [_, _, _], [], _, _ => rfl
  have B__law_refused_3 := Dl.Fun.bnd (ps := ["_law_table", "_law_place", "_law_fresh"]) F__law_refused 3 [] [0, 1, 2] fun _ _ _ _ _ _ us ws h1 h2 => match us, ws, h1, h2 with | [_, _, _], [], _, _ => rfl
  have B__law_rows_2 := Dl.Fun.bnd (ps := ["_law_deck_here", "_law_many"]) F__law_rows 2 [] [0, 1] fun _ _ _ _ _ _ us ws h1 h2 => match us, ws, h1, h2 with | [_, _], [], _, _ => rfl
  have B__law_values_2 := Dl.Fun.bnd (ps := ["_law_deck_here", "_law_many"]) F__law_values 2 [] [0, 1] fun _ _ _ _ _ _ us ws h1 h2 => match us, ws, h1, h2 with | [_, _], [], _, _ => rfl
  refine ⟨PySem.W.fnOf "law" "law" (defArgs s_law) (defBody s_law) (defScope s_law) .none kV_law dc_law pm_law an_law cd_law ct_law, fun s v => .of_eq rfl, fun base _ _ => ?_⟩
  have hc : Hc K (Cs.mk C_LiveTable C_NoRow C_NoTable C_WakeError) := ⟨cl_LiveTable, y_1, y_2, x_n1, x_n2, exm_self x_eC x_iC x_tC x_sC, ⟨x_ga, x_gg, x_eC, x_hC⟩, ⟨x_ga, x_gg, x_eC, x_hC, x_oa, o_n, o_t, x_om⟩, kit_t x_iWakeError x_tWakeError x_sW, kit_v x_sV, kit_f x_iNoTable x_tNoTable x_sT x_sC⟩
  have oe : OexC K C_NoRow := ⟨⟨_, _, _, _, _, _, _, _, _, _, _, _, _, _, _, xL, rfl⟩, x_sa, x_eC, x_tC, x_kC⟩
  have fE := ok_NoRow (P := l.prog) (w := w) (base := base) T hc oe ⟨b_rd, b_ga, b_at⟩ F_NoRow___init__
  have e_NoRow : ErrC l.prog w K mg base 1 "NoRow" C_NoRow (sp2 K C_NoRow "name" "number") := ⟨oe, T.NoRow, ⟨_, _, _, m_NoRow___init__, i_t, fE, b_NoRow___init__⟩⟩
  have fI := ok_init (P := l.prog) (w := w) (base := base) T hc F_LiveTable___init__
  have mk : Mk K C_LiveTable f_LiveTable___init__ := ⟨mk_LiveTable, m_LiveTable___init__, n_LiveTable___init__, kc_LiveTable⟩
  have fR := ok_rows (P := l.prog) (w := w) (base := base) T hc F_LiveTable_rows
  have fL := ok_len (P := l.prog) (w := w) (base := base) T hc F_LiveTable___len__
  have fH := ok_has (P := l.prog) (w := w) (base := base) T hc F_LiveTable___contains__
  have fP := ok_put (P := l.prog) (w := w) (base := base) T hc F_LiveTable_put
  have fC := ok_LiveTable_change (P := l.prog) (w := w) (base := base) T hc e_NoRow F_LiveTable_change
  have fD := ok_LiveTable_drop (P := l.prog) (w := w) (base := base) T hc e_NoRow F_LiveTable_drop
  have hm : Hm l.prog w K mg base (Cs.mk C_LiveTable C_NoRow C_NoTable C_WakeError) := ⟨⟨_, _, _, mk, T.LiveTable, fI, bnd_cut B_LiveTable___init___2 fun ds h => match ds, h with | [_, _, _], _ => rfl⟩, ⟨_, _, _, mk, T.LiveTable, fI, bnd_cut B_LiveTable___init___0_following_rows fun ds h => match ds, h with | [_, _, _], _ => rfl⟩, ⟨_, _, _, mk, T.LiveTable, fI, B_LiveTable___init___0⟩, ⟨_, _, _, _, cl_LiveTable, po_LiveTable_rows, fR, b_LiveTable_rows, rfl⟩, ⟨_, _, _, m_LiveTable___len__, n_LiveTable___len__, fL, b_LiveTable___len__⟩, ⟨_, _, _, m_LiveTable___contains__, n_LiveTable___contains__, fH, b_LiveTable___contains__⟩, ⟨_, _, _, _, cl_LiveTable, me_LiveTable_put, fP, ⟨_, _, rfl, rfl, rfl, rfl, rfl, rfl, rfl⟩, rfl⟩, ⟨_, _, _, cl_LiveTable, me_LiveTable_change, fC, B_LiveTable_change_2⟩, ⟨_, _, _, cl_LiveTable, me_LiveTable_change, fC, B_LiveTable_change_0_values_number⟩, ⟨_, _, _, cl_LiveTable, me_LiveTable_drop, fD, B_LiveTable_drop_1⟩, ⟨_, _, _, cl_LiveTable, me_LiveTable_drop, fD, B_LiveTable_drop_0_number⟩⟩
  have o__law_deck := ok__law_deck (base := base) (P := l.prog) (w := w) T  F__law_deck
  have q__law_deck_1 : ClX l.prog w K mg base 1 "_law_deck" (sp_dk) 1 [] [] [0] := ⟨_, _, _, PySem.W.mg_of X G a__law_deck, F__law_deck.kp, o__law_deck, B__law_deck_1⟩
  have o__law_draw := ok__law_draw (base := base) (P := l.prog) (w := w) T  F__law_draw
  have q__law_draw_2 : ClX l.prog w K mg base 1 "_law_draw" (sp_dr) 2 [] [] [0, 1] := ⟨_, _, _, PySem.W.mg_of X G a__law_draw, F__law_draw.kp, o__law_draw, B__law_draw_2⟩
  have o__law_pick := ok__law_pick (base := base) (P := l.prog) (w := w) T q__law_draw_2  F__law_pick
  have q__law_pick_2 : ClX l.prog w K mg base 2 "_law_pick" (sp_pk) 2 [] [] [0, 1] := ⟨_, _, _, PySem.W.mg_of X G a__law_pick, F__law_pick.kp, o__law_pick, B__law_pick_2⟩
  have o__law_values := ok__law_values (base := base) (P := l.prog) (w := w) T q__law_draw_2 q__law_pick_2  F__law_values
  have q__law_values_2 : ClX l.prog w K mg base 3 "_law_values" (sp_values) 2 [] [] [0, 1] := ⟨_, _, _, PySem.W.mg_of X G a__law_values, F__law_values.kp, o__law_values, B__law_values_2⟩
  have o__law_rows := ok__law_rows (base := base) (P := l.prog) (w := w) T q__law_draw_2 q__law_values_2  F__law_rows
  have q__law_rows_2 : ClX l.prog w K mg base 4 "_law_rows" (sp_rw) 2 [] [] [0, 1] := ⟨_, _, _, PySem.W.mg_of X G a__law_rows, F__law_rows.kp, o__law_rows, B__law_rows_2⟩
  have o__law_refused := ok__law_refused (base := base) (P := l.prog) (w := w) T hc hm  F__law_refused
  have q__law_refused_3 : ClX l.prog w K mg base 4 "_law_refused" (sp_refused (Cs.mk C_LiveTable C_NoRow C_NoTable C_WakeError)) 3 [] [] [0, 1, 2] := ⟨_, _, _, PySem.W.mg_of X G a__law_refused, F__law_refused.kp, o__law_refused, B__law_refused_3⟩
  have o__law_alike := ok__law_alike (base := base) (P := l.prog) (w := w) T hc hm  F__law_alike
  have q__law_alike_2 : ClX l.prog w K mg base 3 "_law_alike" (sp_alike (Cs.mk C_LiveTable C_NoRow C_NoTable C_WakeError)) 2 [] [] [0, 1] := ⟨_, _, _, PySem.W.mg_of X G a__law_alike, F__law_alike.kp, o__law_alike, B__law_alike_2⟩
  have o__law_put := ok__law_put (base := base) (P := l.prog) (w := w) T hm q__law_values_2  F__law_put
  have q__law_put_3 : ClX l.prog w K mg base 4 "_law_put" (sp_lput (Cs.mk C_LiveTable C_NoRow C_NoTable C_WakeError)) 3 [] [] [0, 1, 2] := ⟨_, _, _, PySem.W.mg_of X G a__law_put, F__law_put.kp, o__law_put, B__law_put_3⟩
  have o__law_deed := ok__law_deed (base := base) (P := l.prog) (w := w) T q__law_draw_2 q__law_put_3 q__law_refused_3 q__law_values_2  F__law_deed
  have q__law_deed_3 : ClX l.prog w K mg base 5 "_law_deed" (sp_deed (Cs.mk C_LiveTable C_NoRow C_NoTable C_WakeError)) 3 [] [] [0, 1, 2] := ⟨_, _, _, PySem.W.mg_of X G a__law_deed, F__law_deed.kp, o__law_deed, B__law_deed_3⟩
  exact ok_law T hm q__law_alike_2 q__law_deck_1 q__law_deed_3 q__law_draw_2 q__law_rows_2 F_law
theorem walk {l : PySem.W.OpenLaw} {q : Program} {loose : List Str} {XP : (Str → Option Value) → Heap → Prop} {YP : World → Heap → Prop} {d : DefRec} {K : Params → PySem.W.Frag} (hn : l.most = some 63) (hdf : d.params.defaults = [])
    (hY : ∀ (w : World) (h : Heap), YP w h → (K w.params).In h)
    (F : ∀ (w : World) (mg : Str → Option Value) (fa : Addr) (h : Heap), (K w.params).In h → h.Ns mainGlobals mg → mg d.name = some (.ref fa) →
      ∃ fd : FuncData, (∀ (s : Shared) (u : Value), BindsTo s fd ⟨[u], []⟩ [("_law_script", u)]) ∧ ∀ base : Heap, (K w.params).In base → base.Ns mainGlobals mg → FnG l.prog w (K w.params) mg base (CX l.prog w) 6 fa fd ["_law_script"] (upX (K w.params) spLaw)) :
    PySem.W.WalkO q loose XP YP l.row.toRowW d [] (fun f vs => PySem.call f vs) :=
  walkG (n := 63) (k := 6) (x := "_law_script") (CX := fun w => CX l.prog w) (sp := fun w => upX (K w.params) spLaw) hn (by decide) hdf ⟨rfl, by decide, by decide⟩ hY F
    (fun w H a ns hl hS => upX_law hS hl) fun w H s e s' ⟨_, _, _, _, _, _, _, _, _, _, _, _, z⟩ => z
end K21
open PySem PySem.W PyProof.Rows
set_option maxRecDepth 100000 in
set_option maxHeartbeats 0 in
theorem PySem.Challenge.cw_ownwake_k21_live_tables_holds : PySem.Challenge.rw_ownwake_k21_live_tables.Holds := by
  w_on; o_law; k_head; (case hw => w_witness2)
  k_fill
  refine K21.walk (l := PySem.Challenge.rw_ownwake_k21_live_tables) rfl rfl (fun w h Y => PySem.W.kIn_of Y) ?F
  case F =>
    intro w mg fa h KX G hmg
    refine' K21.all_mk KX G hmg ?o_n ?o_t ?a_LiveTable ?pg_LiveTable ?hd_LiveTable ?po_LiveTable ?sa_LiveTable ?mk_LiveTable ?kc_LiveTable ?oa_LiveTable ?om_LiveTable ?sf_LiveTable ?ib_LiveTable ?it_LiveTable ?a__law_deck ?l__law_deck ?d__law_deck ?k__law_deck ?a__law_draw ?l__law_draw ?d__law_draw ?k__law_draw ?a__law_pick ?l__law_pick ?d__law_pick ?k__law_pick ?a__law_values ?l__law_values ?d__law_values ?k__law_values ?a__law_rows ?l__law_rows ?d__law_rows ?k__law_rows ?a__law_refused ?l__law_refused ?d__law_refused ?k__law_refused ?a__law_alike ?l__law_alike ?d__law_alike ?k__law_alike ?a__law_put ?l__law_put ?d__law_put ?k__law_put ?a__law_deed ?l__law_deed ?d__law_deed ?k__law_deed ?a_law ?l_law ?d_law ?k_law ?m_NoRow___init__ ?l_NoRow___init__ ?d_NoRow___init__ ?k_NoRow___init__ ?n_NoRow___init__ ?m_LiveTable___init__ ?l_LiveTable___init__ ?d_LiveTable___init__ ?k_LiveTable___init__ ?n_LiveTable___init__ ?t_LiveTable___init__ ?m_LiveTable_rows ?mg_LiveTable_rows ?mt_LiveTable_rows ?mr_LiveTable_rows ?l_LiveTable_rows ?d_LiveTable_rows ?k_LiveTable_rows ?n_LiveTable_rows ?m_LiveTable___len__ ?l_LiveTable___len__ ?d_LiveTable___len__ ?k_LiveTable___len__ ?n_LiveTable___len__ ?m_LiveTable___contains__ ?l_LiveTable___contains__ ?d_LiveTable___contains__ ?k_LiveTable___contains__ ?n_LiveTable___contains__ ?m_LiveTable_put ?l_LiveTable_put ?d_LiveTable_put ?k_LiveTable_put ?n_LiveTable_put ?m_LiveTable_change ?l_LiveTable_change ?d_LiveTable_change ?k_LiveTable_change ?n_LiveTable_change ?m_LiveTable_drop ?l_LiveTable_drop ?d_LiveTable_drop ?k_LiveTable_drop ?n_LiveTable_drop ?z_ValueError ?z_dict ?z_isinstance ?z_len ?z_list ?z_range ?z_repr ?z_set ?z_sorted ?z_tuple ?a_NoRow ?a_NoTable ?a_WakeError ?dk_ ?xL ?x_sa ?x_ga ?x_gg ?x_n1 ?x_n2 ?x_kC ?x_eC ?x_tC ?x_hC ?x_iC ?x_sC ?x_oa ?x_om ?x_sW ?x_sV ?x_sT ?x_iNoTable ?x_tNoTable ?x_iWakeError ?x_tWakeError ?b_rd ?b_ga ?b_at ?i_t ?y_1 ?y_2
    (case a_NoRow => k_is); (case a_NoTable => k_is); (case a_WakeError => k_is)
    (case o_n => k_is)
    (case o_t => k_is)
    (case a_LiveTable => k_is)
    (case pg_LiveTable => k_is)
    (case hd_LiveTable => k_is)
    (case po_LiveTable => k_is)
    (case sa_LiveTable => k_is)
    (case mk_LiveTable => k_is)
    (case kc_LiveTable => k_is)
    (case oa_LiveTable => k_is)
    (case om_LiveTable => k_is)
    (case sf_LiveTable => k_is)
    (case ib_LiveTable => k_is)
    (case it_LiveTable => k_is)
    (case a__law_deck => k_is)
    (case l__law_deck => k_is)
    (case d__law_deck => k_is)
    (case k__law_deck => k_is)
    (case a__law_draw => k_is)
    (case l__law_draw => k_is)
    (case d__law_draw => k_is)
    (case k__law_draw => k_is)
    (case a__law_pick => k_is)
    (case l__law_pick => k_is)
    (case d__law_pick => k_is)
    (case k__law_pick => k_is)
    (case a__law_values => k_is)
    (case l__law_values => k_is)
    (case d__law_values => k_is)
    (case k__law_values => k_is)
    (case a__law_rows => k_is)
    (case l__law_rows => k_is)
    (case d__law_rows => k_is)
    (case k__law_rows => k_is)
    (case a__law_refused => k_is)
    (case l__law_refused => k_is)
    (case d__law_refused => k_is)
    (case k__law_refused => k_is)
    (case a__law_alike => k_is)
    (case l__law_alike => k_is)
    (case d__law_alike => k_is)
    (case k__law_alike => k_is)
    (case a__law_put => k_is)
    (case l__law_put => k_is)
    (case d__law_put => k_is)
    (case k__law_put => k_is)
    (case a__law_deed => k_is)
    (case l__law_deed => k_is)
    (case d__law_deed => k_is)
    (case k__law_deed => k_is)
    (case a_law => k_is)
    (case l_law => k_is)
    (case d_law => k_is)
    (case k_law => k_is)
    (case m_NoRow___init__ => k_is)
    (case l_NoRow___init__ => k_is)
    (case d_NoRow___init__ => k_is)
    (case k_NoRow___init__ => k_is)
    (case n_NoRow___init__ => k_is)
    (case m_LiveTable___init__ => k_is)
    (case l_LiveTable___init__ => k_is)
    (case d_LiveTable___init__ => k_is)
    (case k_LiveTable___init__ => k_is)
    (case n_LiveTable___init__ => k_is)
    (case t_LiveTable___init__ => k_is)
    (case m_LiveTable_rows => k_is)
    (case mg_LiveTable_rows => k_is)
    (case mt_LiveTable_rows => k_is)
    (case mr_LiveTable_rows => k_is)
    (case l_LiveTable_rows => k_is)
    (case d_LiveTable_rows => k_is)
    (case k_LiveTable_rows => k_is)
    (case n_LiveTable_rows => k_is)
    (case m_LiveTable___len__ => k_is)
    (case l_LiveTable___len__ => k_is)
    (case d_LiveTable___len__ => k_is)
    (case k_LiveTable___len__ => k_is)
    (case n_LiveTable___len__ => k_is)
    (case m_LiveTable___contains__ => k_is)
    (case l_LiveTable___contains__ => k_is)
    (case d_LiveTable___contains__ => k_is)
    (case k_LiveTable___contains__ => k_is)
    (case n_LiveTable___contains__ => k_is)
    (case m_LiveTable_put => k_is)
    (case l_LiveTable_put => k_is)
    (case d_LiveTable_put => k_is)
    (case k_LiveTable_put => k_is)
    (case n_LiveTable_put => k_is)
    (case m_LiveTable_change => k_is)
    (case l_LiveTable_change => k_is)
    (case d_LiveTable_change => k_is)
    (case k_LiveTable_change => k_is)
    (case n_LiveTable_change => k_is)
    (case m_LiveTable_drop => k_is)
    (case l_LiveTable_drop => k_is)
    (case d_LiveTable_drop => k_is)
    (case k_LiveTable_drop => k_is)
    (case n_LiveTable_drop => k_is)
    (case z_ValueError => k_is); (case z_dict => k_is); (case z_isinstance => k_is); (case z_len => k_is); (case z_list => k_is); (case z_range => k_is); (case z_repr => k_is); (case z_set => k_is); (case z_sorted => k_is); (case z_tuple => k_is); (case dk_ => k_is); (case xL => k_is); (case x_sa => k_is); (case x_ga => k_is); (case x_gg => k_is); (case x_n1 => k_is); (case x_n2 => k_is); (case x_kC => k_is); (case x_eC => k_is); (case x_tC => k_is); (case x_hC => k_is); (case x_iC => k_is); (case x_sC => k_is); (case x_oa => k_is); (case x_om => k_is); (case x_sW => k_is); (case x_sV => k_is); (case x_sT => k_is); (case x_iNoTable => k_is); (case x_tNoTable => k_is); (case x_iWakeError => k_is); (case x_tWakeError => k_is); (case b_rd => k_is); (case b_ga => k_is); (case b_at => k_is); (case i_t => k_is); (case y_1 => k_is); (case y_2 => k_is)
