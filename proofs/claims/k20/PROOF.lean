import PyProof.Rows.All
import Wide.All
import OpenK.AllK
import Wide.FinOn
import HandS.ForMost
import HandS.Style
import HandS.TupAny
import PyProof.ReprRoads
import KE.DataEq
import KE.DataCmp
import KE.DataIsa
import KE.DataAny
import KE.SortData
import PySem.Challenge.RW_ownwake_k20_places_ahead
set_option Elab.async false
set_option linter.all false
set_option maxRecDepth 100000
set_option maxHeartbeats 4000000
/-! Defs that are called where no repr is under way (the layer's own promises say nothing of guards). -/
namespace Dl
open PySem PySem.Spec PyProof.Rows L2

/-- as the layer's FnOk, but only for callers without a guard -/
structure FnG (P : Program) (w : World) (K : PySem.W.Frag) (mg : Str → Option Value) (base : Heap) (CX : CXT) (k : Nat) (f : Addr) (fd : FuncData) (ps : List Str) (sp : Sp) : Prop where
  arity : ∀ {vs H Q E}, sp vs H Q E → vs.length = ps.length
  go : ∀ {A : Around} {outer : List Env} {s : Shared} {H : Hp} {args : Args} {us : List Value} {vs : List V} {Q : VK} {E : XK}, A.guards = some [] → Room k A → Env0 P w K mg base A outer s H →
    BindsTo s fd args (ps.zip us) → Vals vs us → sp vs H Q E → codeAny (model P w) A (.call (.ref f) args) (CR CX outer P w H s Q E) s
section
variable {P : Program} {w : World} {K : PySem.W.Frag} {mg : Str → Option Value} {base : Heap} {CX : CXT} {j k : Nat} {f : Addr} {fd : FuncData} {ps : List Str} {sp : Sp}
theorem FnG.up (F : FnG P w K mg base CX j f fd ps sp) (h : j ≤ k) : FnG P w K mg base CX k f fd ps sp := ⟨F.arity, fun g r => F.go g (r.mono h)⟩
theorem kinds_ok {sc : Scope} {N : List Str} (S : FnScope N ps sc) (us : List Value) :
    ((ps.zip us).all fun y => sc.names.lookup y.1 == some .local || sc.names.lookup y.1 == some .cell) = true := by
  rw [List.all_eq_true]
  intro y hy
  have hm : y.1 ∈ ps := (List.of_mem_zip (a := y.1) (b := y.2) hy).1
  rcases S.par y.1 hm with q | q <;> simp [q]
/-- a def of the text by its body, the guard's word carried -/
theorem okG {x qual : Str} {st : Stmt} {N : List Str} (F : Fun K x qual st f fd) (S : FnScope N ps (defScope st)) (ar : ∀ {vs H Q E}, sp vs H Q E → vs.length = ps.length)
    (body : ∀ {cdv : Value} {A : Around} {outer : List Env} {s : Shared} {H : Hp} {vs : List V} {Q : VK} {E : XK}, A.guards = some [] → Room k (A.deeper (envOfC qual (defScope st) s.heap.objs.size f cdv)) → sp vs H Q E →
      ∃ t, PSs (cxOf CX P w K mg base N qual (defScope st) f cdv A outer s H E) (defBody st) t ∧ t { nx := fun _ H' => Q .non H', rt := Q } (start N vs) H) : FnG P w K mg base CX (k + 1) f fd ps sp := by
  obtain ⟨oc, od, kV, doc, pm, an, cdv, ct, osl, rfl, lk, hcd⟩ := F.ex
  refine ⟨ar, @fun A outer s H args us vs Q E hg hr e0 hb hv h => ?_⟩
  have keep : ∀ b o, base.get? b = some o → s.heap.get? b = some o := fun b o q => (e0.bs b o q).1
  obtain ⟨t, ht, hq⟩ := body (cdv := cdv) (outer := outer) (s := s) hg (hr.deeper _) h
  refine Att.call_fn (e0.mod.kin.keeps keep) (e0.mod.nolimit.keeps keep) lk hcd hr.depth hb (kinds_ok S us) (fun s1 ic => ?_) S.co S.gen S.kind
  have I := inv_start (CX := CX) (E := E) S hr.hd e0 (ar h) hv ic
  refine wpAny_mono (ht.run [] s1 _ H _ I hq) (fun fl s2 h2 => ?_) (fun e s2 h2 => h2)
  cases fl with
  | next => obtain ⟨σ2, H2, I2, q2⟩ := h2; exact ⟨V.non, H2, I2.os, I2.bare, I2.base, I2.hok, rfl, q2⟩
  | ret u => obtain ⟨v2, σ2, H2, I2, r2, q2⟩ := h2; exact ⟨v2, H2, I2.os, I2.bare, I2.base, I2.hok, r2, q2⟩
  | brk => obtain ⟨_, _, _, no⟩ := h2; exact no.elim
  | cont => obtain ⟨_, _, _, no⟩ := h2; exact no.elim
end

section
variable {X : Cx} {CX : CXT} {k : Nat} {f C : Addr} {fd : FuncData} {ps ks : List Str} {sp : Sp} {dvs : List V} {ds : List Value} {E : XK} {x m : Str} {p pos apos kpos : Pos} {e o : Expr} {es : List Expr} {ta : TE} {t tk : TA} {kws : List Keyword}
  {g : List Value → List Value → List Value} {gV : List V → List V → List V}
/-- behind a call: what came back, or the error handed on -/
theorem back {pins : List (Addr × Obj)} {σ : L2.St} {H : Hp} {s : Shared} {Q : VK} {args : Args} (hx : Passes CX X E) (I : Inv X pins σ H s)
    (h : codeAny (model X.prog X.w) X.A (.call (.ref f) args) (CR CX X.stack X.prog X.w H s Q E) s) : wpAny (model X.prog X.w) X.A (call (.ref f) args.pos args.kw) (EP X pins σ Q) X.xe s := by
  refine wpAny_call (codeAny_mono h fun r s' hq => ?_)
  match r, hq with
  | .error e, hq => exact hx pins σ H s e s' I hq
  | .ok (.ret u), hq => exact I.after hq
/-- f(e, ..) -/
theorem pe_callG (F : FnG X.prog X.w X.K X.mg X.base CX k f fd ps sp) (hr : Room k X.A) (hgu : X.A.guards = some []) (hg : Gl X x) (hm : X.mg x = some (.ref f)) (hk : PySem.W.keepIn X.K (.ref f) = true) (hb : Binds X.K fd ps ds) (hd : Vals dvs ds) (hx : Passes CX X E)
    (ha : PA X (e :: es) t) (hdb : (x == ("__debug__" : Str)) = false := by decide) (he : starEach (e :: es) X.env = (false, eval e X.env) :: starEach es X.env := by rfl) (hpl : (backTo pos (starEach es X.env)).any (·.1) = false := by rfl) :
    PE X (.Call (.Name x p) (e :: es) [] pos) (tCall sp dvs E t) := ⟨fun pins s σ H Q I h => by
  refine wpAny_Call_Name_kw (ld_glob I hg hm (PySem.W.callWith_K (h₀ := X.base) I.ok.mod.kin hk (thn (ha.run pos pins s σ H _ I h) ?_) he hpl) hdb)
  rintro us s1 ⟨vs, H1, I1, r, q⟩
  have z : Vals (vs ++ dvs) (us ++ ds) := r.append hd
  exact ⟨I1.kIn, back (args := ⟨us, []⟩) hx I1 (F.go hgu hr I1.env0 (hb s1 us I1.kIn (z.length.symm.trans (F.arity q))) z q)⟩⟩
/-- f(k = v, ..): keywords alone -/
def tCallK0 (sp : Sp) (gV : List V → List V → List V) (E : XK) (tk : TA) : TE := fun σ H Q => tk σ H fun zs H2 => sp (gV [] zs) H2 Q E
theorem pe_callKG0 (F : FnG X.prog X.w X.K X.mg X.base CX k f fd ps sp) (hr : Room k X.A) (hgu : X.A.guards = some []) (hg : Gl X x) (hm : X.mg x = some (.ref f)) (hk : PySem.W.keepIn X.K (.ref f) = true) (hb : KBinds X.K fd ps ks g gV) (hx : Passes CX X E)
    (hkw : PK X kws tk) (hall : (backToKw pos (keywordEach kws X.env)).all (·.1.isSome) = true := by rfl) (hks : (backToKw pos (keywordEach kws X.env)).filterMap (·.1) = ks := by rfl)
    (hdb : (x == ("__debug__" : Str)) = false := by decide)
    (hpl : ((backTo pos (starEach [] X.env)).any (·.1) || (backToKw pos (keywordEach kws X.env)).any (·.1.isNone)) = false := by rfl) :
    PE X (.Call (.Name x p) [] kws pos) (tCallK0 sp gV E tk) := ⟨fun pins s σ H Q I h => by
  refine wpAny_Call_Name_kw (ld_glob I hg hm (PySem.W.callWith_KW0 (h₀ := X.base) I.ok.mod.kin hk hall (thn (hkw.run pos pins s σ H _ I h) ?_) hpl) hdb)
  rintro ws s2 ⟨zs, H2, I2, rz, q⟩
  have z := hb.rel (vs := []) (us := []) .nil rz
  rw [hks]
  exact ⟨I2.kIn, back (args := ⟨[], ks.zip ws⟩) hx I2 (F.go hgu hr I2.env0 (hb.to s2 [] ws I2.kIn (z.length.symm.trans (F.arity q))) z q)⟩⟩
end

/-! ### the law's end -/
/-- what is tracked when the law is entered: the script, unless it is one of the module's objects -/
def H0 (K : PySem.W.Frag) (a : Addr) (o : Obj) (xs : List V) : Hp := fun b => if b = a ∧ K.lookup a = none then some (.frz o (.lst xs)) else none
theorem H0_at {K : PySem.W.Frag} {a b : Addr} {o : Obj} {xs : List V} {u : HO} (h : H0 K a o xs b = some u) : b = a ∧ K.lookup a = none ∧ u = .frz o (.lst xs) := by
  unfold H0 at h
  by_cases c : b = a ∧ K.lookup a = none
  · rw [if_pos c] at h
    exact ⟨c.1, c.2, (Option.some.inj h).symm⟩
  · rw [if_neg c] at h
    cases h
theorem law_endG {P : Program} {w : World} {K : PySem.W.Frag} {mg mb : Str → Option Value} {CX : CXT} {k : Nat} {fa a : Addr} {fd : FuncData} {x : Str} {sp : Sp} {s : Shared} {vs : List Value} {ns : List Int}
    (KX : K.In s.heap) (hns : s.heap.Ns mainGlobals mg) (hb : s.heap.Ns builtinsNs mb) (hbb : ∀ x : Str, x ≠ "__name__" → mb x = bootBuiltins x) (hlim : s.heap.NoLimit) (hg : s.gens = #[])
    (ha : s.heap.get? a = some { cls := .type "list", data := .seq vs.toArray }) (hi : IntsAre vs ns) (hl : ns.length ≤ sizeLine) (hr : Room k callerA)
    (F : ∀ base : Heap, K.In base → base.Ns mainGlobals mg → FnG P w K mg base CX k fa fd [x] sp) (hbind : ∀ (s : Shared) (u : Value), BindsTo s fd ⟨[u], []⟩ [(x, u)])
    (hsp : ∀ H : Hp, SqL K H a (ns.map V.int) → sp [.ref a] H (fun v _ => v = .bl true) fun _ _ _ => False)
    (hCX : ∀ H e s', CX [] H s (fun _ _ _ => False) e s' → False) :
    codeAny (model P w) callerA (.call (.ref fa) ⟨[.ref a], []⟩) (fun r s' => r = .ok (.ret (.bool true)) ∧ OldK s.heap s'.heap ∧ s'.os = s.os ∧ AllBare s'.gens) s := by
  have rv := vals_ints hi
  let H := H0 K a { cls := .type "list", data := .seq vs.toArray } (ns.map V.int)
  have free : ∀ {b : Addr} {o : Obj}, s.heap.get? b = some o → (∀ xs n, o.data ≠ .seq xs n) → H b = none := fun {b o} e d => by
    cases q : H b with
    | none => rfl
    | some u =>
      obtain ⟨eb, _, _⟩ := H0_at q
      rw [eb, ha] at e
      cases e
      exact absurd rfl (d _ _)
  have nsOf : ∀ {b : Addr} {m : Str → Option Value}, s.heap.Ns b m → (hidT s.heap H).Ns b m := fun ⟨o, es, ep, e, d, r⟩ =>
    ⟨o, es, ep, hidT_get e (free e fun xs n z => by rw [d] at z; cases z), d, r⟩
  have kin : K.In (hidT s.heap H) := fun b o e => hidT_get (KX b o e) (by
    cases q : H b with
    | none => rfl
    | some u =>
      obtain ⟨eb, nk, _⟩ := H0_at q
      rw [eb, nk] at e
      cases e)
  have hok : HOk P w H s.heap := fun b u q => by
    obtain ⟨eb, _, eu⟩ := H0_at q
    rw [eb, eu]
    exact ⟨ha, by rw [List.length_map]; exact hl, vs, _, rv, ha⟩
  have sq : SqL K H a (ns.map V.int) := by
    cases hk : K.lookup a with
    | none => exact .inl (.inr ⟨_, if_pos ⟨rfl, hk⟩⟩)
    | some o =>
      have e := KX a o hk
      rw [ha] at e
      cases e
      exact .inr ⟨_, vs.toArray, _, hk, rfl, rfl, rfl, by rw [List.size_toArray, hi.length]; exact hl, by simpa using rv⟩
  have lim : (hidT s.heap H).NoLimit := by
    obtain ⟨mc, h1, h2⟩ := hlim
    exact ⟨mc, nsOf h1, h2⟩
  have e0 : Env0 P w K mg (hidT s.heap H) callerA [] s H :=
    ⟨rfl, ⟨kin, nsOf hns, ⟨mb, nsOf hb, hbb⟩, lim⟩, fun b o e => of_hidT e, Nat.le_of_eq (hidT_size _ _), trivial, (fun b z => nomatch z), hok, .of_eq hg⟩
  refine codeAny_mono ((F _ kin (nsOf hns)).go rfl hr e0 (us := [.ref a]) (vs := [.ref a]) (hbind s (.ref a)) (.cons rfl .nil) (hsp H sq)) fun r s' h => ?_
  match r, h with
  | .error e, h => exact (hCX H e s' h).elim
  | .ok (.ret u), h =>
    obtain ⟨v, H', os, bare, un, hok', r', q⟩ := h
    have ev : v = .bl true := q
    subst ev
    have eu : u = Value.bool true := r'
    subst eu
    refine ⟨rfl, OldK.of_keep fun b o e => ?_, os, bare⟩
    cases q : H b with
    | none => exact un.keep b o e q (fun z => nomatch z) (fun z => nomatch z)
    | some y =>
      obtain ⟨_, _, ey⟩ := H0_at q
      rw [ey] at q
      have k1 := (hok b _ q).1
      have k2 := (hok' b _ (un.frzs b _ _ q)).1
      rw [e] at k1
      rw [k2, ← k1]
theorem walkG {l : PySem.W.OpenLaw} {n k : Nat} {q : Program} {loose : List Str} {XP : (Str → Option Value) → Heap → Prop} {YP : World → Heap → Prop} {d : DefRec} {K : Params → PySem.W.Frag} {CX : World → CXT} {sp : World → Sp} {x : Str}
    (hn : l.most = some n) (hn2 : n ≤ sizeLine) (hdf : d.params.defaults = []) (hr : Room k callerA) (hY : ∀ (w : World) (h : Heap), YP w h → (K w.params).In h)
    (F : ∀ (w : World) (mg : Str → Option Value) (fa : Addr) (h : Heap), (K w.params).In h → h.Ns mainGlobals mg → mg d.name = some (.ref fa) → ∃ fd : FuncData, (∀ (s : Shared) (u : Value), BindsTo s fd ⟨[u], []⟩ [(x, u)]) ∧
        ∀ base : Heap, (K w.params).In base → base.Ns mainGlobals mg → FnG l.prog w (K w.params) mg base (CX w) k fa fd [x] (sp w))
    (hsp : ∀ (w : World) (H : Hp) (a : Addr) (ns : List Int), ns.length ≤ n → SqL (K w.params) H a (ns.map V.int) → sp w [.ref a] H (fun v _ => v = .bl true) fun _ _ _ => False)
    (hCX : ∀ (w : World) (H : Hp) (s : Shared) (e : Value) (s' : Shared), CX w [] H s (fun _ _ _ => False) e s' → False) : PySem.W.WalkO q loose XP YP l.row.toRowW d [] (fun f vs => PySem.call f vs) :=
  Att.attach_call hn hdf fun w s0 s1 mg mb fa o pm cd doc a vs ns G Y ho hd hcd hmg hobj hints hlen hg =>
    let ⟨_, hb, hF⟩ := F w mg fa _ (hY w _ Y) G.T.g hmg
    law_endG (hY w _ Y) G.T.g G.T.b G.T.builtins G.T.nolimit hg hobj hints (Nat.le_trans hlen hn2) hr hF hb (fun H hS => hsp w H a ns hlen hS) fun H e s' => hCX w H s1 e s'
end Dl

/-! Data: what a def goes on with, without the heap. Immutable things are values (D); what is changed stands at an address, in a store (Mu). -/
namespace Dl
open PySem PySem.Spec PyProof.Rows L2

inductive D where
  | non | bl (b : Bool) | int (i : Int) | str (x : Str) | ty (n : String) | ref (a : Addr)
  | lst (xs : List D) | sq (xs : List D) | tup (xs : List D) | obj (C : Addr) (fs : List (Str × D))
/-- what stands at an address that may change -/
inductive Ob where
  | lst (xs : List D) | dK (kvs : List (Key × D)) | ins (C : Addr) (fs : List (Str × D))
abbrev Mu := Addr → Option Ob
def mup (μ : Mu) (a : Addr) (o : Ob) : Mu := fun b => if b = a then some o else μ b
theorem mup_same {μ : Mu} {a : Addr} {o : Ob} : mup μ a o a = some o := if_pos rfl
theorem mup_ne {μ : Mu} {a b : Addr} {o : Ob} (h : b ≠ a) : mup μ a o b = μ b := if_neg h

/-- a tuple of the module's written part -/
def KT (K : PySem.W.Frag) (a : Addr) (vs : List V) : Prop :=
  ∃ (o : Obj) (its : Array Value) (n : Nat), K.lookup a = some o ∧ o.cls = .type "tuple" ∧ o.data = .seq its n ∧ its.size ≤ sizeLine ∧ Vals vs its.toList
def KL (K : PySem.W.Frag) (a : Addr) (vs : List V) : Prop :=
  ∃ (o : Obj) (its : Array Value) (n : Nat), K.lookup a = some o ∧ o.cls = .type "list" ∧ o.dict = none ∧ o.data = .seq its n ∧ its.size ≤ sizeLine ∧ Vals vs its.toList

mutual
/-- the value v is the datum d -/
inductive Da (K : PySem.W.Frag) (μ : Mu) (H : Hp) : V → D → Prop
  | non : Da K μ H .non .non
  | bl (b : Bool) : Da K μ H (.bl b) (.bl b)
  | int (i : Int) : Da K μ H (.int i) (.int i)
  | str (x : Str) : Da K μ H (.str x) (.str x)
  | ty (n : String) : Da K μ H (.ty n) (.ty n)
  | ref (a : Addr) : Da K μ H (.ref a) (.ref a)
  | lst {a : Addr} {vs : List V} {ds : List D} : μ a = none → H a = some (.lst vs) → DaL K μ H vs ds → Da K μ H (.ref a) (.lst ds)
  | sq {a : Addr} {vs : List V} {ds : List D} : (μ a = none ∧ Rd H a (.lst vs)) ∨ KL K a vs → DaL K μ H vs ds → Da K μ H (.ref a) (.sq ds)
  | tup {a : Addr} {vs : List V} {ds : List D} : (μ a = none ∧ Rd H a (.tup vs)) ∨ KT K a vs → DaL K μ H vs ds → Da K μ H (.ref a) (.tup ds)
  | obj {a C dx : Addr} {fv : List (Str × V)} {fs : List (Str × D)} : μ a = none → H a = some (.ins C dx fv) → DaF K μ H fv fs → Da K μ H (.ref a) (.obj C fs)
inductive DaL (K : PySem.W.Frag) (μ : Mu) (H : Hp) : List V → List D → Prop
  | nil : DaL K μ H [] []
  | cons {v : V} {d : D} {vs : List V} {ds : List D} : Da K μ H v d → DaL K μ H vs ds → DaL K μ H (v :: vs) (d :: ds)
inductive DaF (K : PySem.W.Frag) (μ : Mu) (H : Hp) : List (Str × V) → List (Str × D) → Prop
  | nil : DaF K μ H [] []
  | cons {n : Str} {v : V} {d : D} {vs : List (Str × V)} {ds : List (Str × D)} : Da K μ H v d → DaF K μ H vs ds → DaF K μ H ((n, v) :: vs) ((n, d) :: ds)
end
inductive DaK (K : PySem.W.Frag) (μ : Mu) (H : Hp) : List (Key × V) → List (Key × D) → Prop
  | nil : DaK K μ H [] []
  | cons {n : Key} {v : V} {d : D} {vs : List (Key × V)} {ds : List (Key × D)} : Da K μ H v d → DaK K μ H vs ds → DaK K μ H ((n, v) :: vs) ((n, d) :: ds)

def ObOk (K : PySem.W.Frag) (μ : Mu) (H : Hp) (a : Addr) : Ob → Prop
  | .lst xs => ∃ vs, H a = some (.lst vs) ∧ DaL K μ H vs xs
  | .dK kvs => ∃ vs, H a = some (.dK vs) ∧ DaK K μ H vs kvs
  | .ins C fs => ∃ dx fv, H a = some (.ins C dx fv) ∧ DaF K μ H fv fs
/-- the store is held -/
def J (K : PySem.W.Frag) (μ : Mu) (H : Hp) : Prop := ∀ a o, μ a = some o → ObOk K μ H a o
theorem ObOk.some {K : PySem.W.Frag} {μ : Mu} {H : Hp} {a : Addr} : ∀ {o : Ob}, ObOk K μ H a o → H a ≠ none
  | .lst _, ⟨_, e, _⟩ => by rw [e]; simp
  | .dK _, ⟨_, e, _⟩ => by rw [e]; simp
  | .ins _ _, ⟨_, _, e, _⟩ => by rw [e]; simp
theorem J.free {K : PySem.W.Frag} {μ : Mu} {H : Hp} {a : Addr} (j : J K μ H) (h : H a = none) : μ a = none := by
  cases q : μ a with
  | none => rfl
  | some o => exact absurd h (j a o q).some

/-- what may happen: what is not in the store stays, the store only grows, by new addresses -/
structure Gr (μ : Mu) (H : Hp) (μ' : Mu) (H' : Hp) : Prop where
  keep : ∀ b o, μ b = none → H b = some o → H' b = some o
  dom : ∀ b, μ b ≠ none → μ' b ≠ none
  new : ∀ b, μ b = none → μ' b ≠ none → H b = none
section
variable {K : PySem.W.Frag} {μ μ1 μ2 : Mu} {H H1 H2 : Hp} {a : Addr} {v : V} {d : D}
theorem Gr.refl : Gr μ H μ H := ⟨fun _ _ _ h => h, fun _ h => h, fun _ h h' => absurd h h'⟩
theorem Gr.out (g : Gr μ H μ1 H1) {b : Addr} {o : HO} (n : μ b = none) (h : H b = some o) : μ1 b = none := by
  cases q : μ1 b with
  | none => rfl
  | some u =>
    have := g.new b n (by rw [q]; simp)
    rw [h] at this
    cases this
theorem Gr.trans (g : Gr μ H μ1 H1) (g' : Gr μ1 H1 μ2 H2) : Gr μ H μ2 H2 where
  keep := fun b o n h => g'.keep b o (g.out n h) (g.keep b o n h)
  dom := fun b h => g'.dom b (g.dom b h)
  new := fun b n h => by
    by_cases q : μ1 b = none
    · cases z : H b with
      | none => rfl
      | some o =>
        have := g'.new b q h
        rw [g.keep b o n z] at this
        cases this
    · exact g.new b n q
theorem Gr.rd (g : Gr μ H μ1 H1) {b : Addr} {u : HO} (n : μ b = none) (h : Rd H b u) : μ1 b = none ∧ Rd H1 b u := by
  rcases h with h | ⟨o, h⟩
  · exact ⟨g.out n h, .inl (g.keep b _ n h)⟩
  · exact ⟨g.out n h, .inr ⟨o, g.keep b _ n h⟩⟩
mutual
theorem Da.grow (g : Gr μ H μ1 H1) : ∀ {v : V} {d : D}, Da K μ H v d → Da K μ1 H1 v d
  | _, _, .non => .non
  | _, _, .bl b => .bl b
  | _, _, .int i => .int i
  | _, _, .str x => .str x
  | _, _, .ty n => .ty n
  | _, _, .ref a => .ref a
  | _, _, .lst n h l => .lst (g.out n h) (g.keep _ _ n h) (DaL.grow g l)
  | _, _, .sq (.inl ⟨n, h⟩) l => .sq (.inl (g.rd n h)) (DaL.grow g l)
  | _, _, .sq (.inr h) l => .sq (.inr h) (DaL.grow g l)
  | _, _, .tup (.inl ⟨n, h⟩) l => .tup (.inl (g.rd n h)) (DaL.grow g l)
  | _, _, .tup (.inr h) l => .tup (.inr h) (DaL.grow g l)
  | _, _, .obj n h l => .obj (g.out n h) (g.keep _ _ n h) (DaF.grow g l)
theorem DaL.grow (g : Gr μ H μ1 H1) : ∀ {vs : List V} {ds : List D}, DaL K μ H vs ds → DaL K μ1 H1 vs ds
  | _, _, .nil => .nil
  | _, _, .cons h l => .cons (Da.grow g h) (DaL.grow g l)
theorem DaF.grow (g : Gr μ H μ1 H1) : ∀ {vs : List (Str × V)} {ds : List (Str × D)}, DaF K μ H vs ds → DaF K μ1 H1 vs ds
  | _, _, .nil => .nil
  | _, _, .cons h l => .cons (Da.grow g h) (DaF.grow g l)
end
theorem DaK.grow (g : Gr μ H μ1 H1) : ∀ {vs : List (Key × V)} {ds : List (Key × D)}, DaK K μ H vs ds → DaK K μ1 H1 vs ds
  | _, _, .nil => .nil
  | _, _, .cons h l => .cons (Da.grow g h) (DaK.grow g l)
theorem ObOk.grow (g : Gr μ H μ1 H1) (e : H1 a = H a) : ∀ {o : Ob}, ObOk K μ H a o → ObOk K μ1 H1 a o
  | .lst _, ⟨vs, h, l⟩ => ⟨vs, e.trans h, l.grow g⟩
  | .dK _, ⟨vs, h, l⟩ => ⟨vs, e.trans h, l.grow g⟩
  | .ins _ _, ⟨dx, fv, h, l⟩ => ⟨dx, fv, e.trans h, l.grow g⟩
theorem DaL.length : ∀ {vs : List V} {ds : List D}, DaL K μ H vs ds → vs.length = ds.length
  | _, _, .nil => rfl
  | _, _, .cons _ l => congrArg (· + 1) l.length
theorem DaL.get : ∀ {vs : List V} {ds : List D} {i : Nat} {d : D}, DaL K μ H vs ds → ds[i]? = some d → ∃ v, vs[i]? = some v ∧ Da K μ H v d
  | _, _, _, _, .nil, e => by simp at e
  | _, _, 0, _, .cons h _, e => by simp at e; subst e; exact ⟨_, rfl, h⟩
  | _, _, i + 1, d, .cons _ l, e => by
    obtain ⟨v, h1, h2⟩ := DaL.get (i := i) (d := d) l (by simpa using e)
    exact ⟨v, by simpa using h1, h2⟩
theorem DaL.got : ∀ {vs : List V} {ds : List D} {i : Nat} {v : V}, DaL K μ H vs ds → vs[i]? = some v → ∃ d, ds[i]? = some d ∧ Da K μ H v d
  | _, _, _, _, .nil, e => by simp at e
  | _, _, 0, _, .cons h _, e => by simp at e; subst e; exact ⟨_, rfl, h⟩
  | _, _, i + 1, d, .cons _ l, e => by
    obtain ⟨v, h1, h2⟩ := DaL.got (i := i) (v := d) l (by simpa using e)
    exact ⟨v, by simpa using h1, h2⟩
theorem DaL.append : ∀ {vs ws : List V} {ds es : List D}, DaL K μ H vs ds → DaL K μ H ws es → DaL K μ H (vs ++ ws) (ds ++ es)
  | _, _, _, _, .nil, s => s
  | _, _, _, _, .cons h l, s => .cons h (l.append s)
theorem DaL.take : ∀ {vs : List V} {ds : List D} (n : Nat), DaL K μ H vs ds → DaL K μ H (vs.take n) (ds.take n)
  | _, _, 0, _ => .nil
  | _, _, _ + 1, .nil => .nil
  | _, _, n + 1, .cons h l => .cons h (l.take n)
theorem DaL.drop : ∀ {vs : List V} {ds : List D} (n : Nat), DaL K μ H vs ds → DaL K μ H (vs.drop n) (ds.drop n)
  | _, _, 0, h => h
  | _, _, _ + 1, .nil => .nil
  | _, _, n + 1, .cons _ l => l.drop n
theorem DaL.rev : ∀ {vs : List V} {ds : List D}, DaL K μ H vs ds → DaL K μ H vs.reverse ds.reverse
  | _, _, .nil => .nil
  | _, _, .cons h l => by
    rw [List.reverse_cons, List.reverse_cons]
    exact l.rev.append (.cons h .nil)
theorem DaL.set {v : V} {d : D} (h : Da K μ H v d) : ∀ {vs : List V} {ds : List D} (i : Nat), DaL K μ H vs ds → DaL K μ H (vs.set i v) (ds.set i d)
  | _, _, _, .nil => .nil
  | _, _, 0, .cons _ l => .cons h l
  | _, _, i + 1, .cons q l => .cons q (DaL.set h i l)
theorem DaL.ints : ∀ (ns : List Int), DaL K μ H (ns.map V.int) (ns.map D.int)
  | [] => .nil
  | n :: ns => .cons (.int n) (DaL.ints ns)
theorem DaL.ofInts : ∀ {vs : List V} {ns : List Int}, DaL K μ H vs (ns.map D.int) → vs = ns.map V.int
  | _, [], .nil => rfl
  | _, n :: ns, .cons h l => by
    cases h
    rw [DaL.ofInts l, List.map_cons]
theorem Da.sqT {vs : List V} (h : (μ a = none ∧ Rd H a (.tup vs)) ∨ KT K a vs) : SqT K H a vs := h.elim (fun q => .inl q.2) .inr
theorem Da.sqL {vs : List V} (h : (μ a = none ∧ Rd H a (.lst vs)) ∨ KL K a vs) : SqL K H a vs := h.elim (fun q => .inl q.2) .inr

/-- a new datum -/
theorem Gr.laid {o : HO} (n : H a = none) : Gr μ H μ (upd H a o) :=
  ⟨fun b u _ h => by rw [upd_ne (ne_of_none h n)]; exact h, fun _ h => h, fun _ h h' => absurd h h'⟩
theorem J.laid {o : HO} (j : J K μ H) (n : H a = none) : J K μ (upd H a o) := fun b u q =>
  (j b u q).grow (Gr.laid n) (upd_ne fun (e : b = a) => (j b u q).some (by rw [e]; exact n))
/-- a new thing that may change -/
theorem Gr.born {o : HO} {u : Ob} (n : H a = none) : Gr μ H (mup μ a u) (upd H a o) where
  keep := fun b x _ h => by rw [upd_ne (ne_of_none h n)]; exact h
  dom := fun b h => by
    by_cases e : b = a
    · rw [e, mup_same]; simp
    · rw [mup_ne e]; exact h
  new := fun b h h' => by
    by_cases e : b = a
    · rw [e]; exact n
    · rw [mup_ne e] at h'; exact absurd h h'
theorem J.born {o : HO} {u : Ob} (j : J K μ H) (n : H a = none) (ok : ObOk K (mup μ a u) (upd H a o) a u) : J K (mup μ a u) (upd H a o) := fun b x q => by
  by_cases e : b = a
  · subst e
    rw [mup_same] at q
    cases q
    exact ok
  · rw [mup_ne e] at q
    exact (j b x q).grow (Gr.born n) (upd_ne e)
/-- a thing changes -/
theorem Gr.turn {o : HO} {u u' : Ob} (h : μ a = some u) : Gr μ H (mup μ a u') (upd H a o) where
  keep := fun b x n q => by rw [upd_ne fun e => by rw [e, h] at n; cases n]; exact q
  dom := fun b q => by
    by_cases e : b = a
    · rw [e, mup_same]; simp
    · rw [mup_ne e]; exact q
  new := fun b n q => by
    by_cases e : b = a
    · rw [e, h] at n; cases n
    · rw [mup_ne e] at q; exact absurd n q
theorem J.turn {o : HO} {u u' : Ob} (j : J K μ H) (h : μ a = some u) (ok : ObOk K (mup μ a u') (upd H a o) a u') : J K (mup μ a u') (upd H a o) := fun b x q => by
  by_cases e : b = a
  · subst e
    rw [mup_same] at q
    cases q
    exact ok
  · rw [mup_ne e] at q
    exact (j b x q).grow (Gr.turn h) (upd_ne e)
end
end Dl

namespace Dl
open PySem PySem.Spec PyProof.Rows L2

/-! ### data as the library reads it -/
mutual
def py : D → PyData
  | .non => .none
  | .bl b => .bool b
  | .int i => .int i
  | .str x => .str x
  | .ty _ => .none
  | .ref _ => .none
  | .lst xs => .list (pyL xs)
  | .sq xs => .list (pyL xs)
  | .tup xs => .tuple (pyL xs)
  | .obj _ _ => .none
def pyL : List D → List PyData
  | [] => []
  | x :: xs => py x :: pyL xs
end
mutual
/-- made of None, bools, ints, texts, lists, tuples alone -/
def pur : D → Bool
  | .non => true
  | .bl _ => true
  | .int _ => true
  | .str _ => true
  | .ty _ => false
  | .ref _ => false
  | .lst xs => purL xs
  | .sq xs => purL xs
  | .tup xs => purL xs
  | .obj _ _ => false
def purL : List D → Bool
  | [] => true
  | x :: xs => pur x && purL xs
end
mutual
theorem py_plain : ∀ d : D, (py d).plain = true
  | .non => by simp only [py, PyData.plain]
  | .bl b => by simp only [py, PyData.plain]
  | .int i => by simp only [py, PyData.plain]
  | .str x => by simp only [py, PyData.plain]
  | .ty _ => by simp only [py, PyData.plain]
  | .ref _ => by simp only [py, PyData.plain]
  | .lst xs => by simp only [py, PyData.plain]; exact pyL_plain xs
  | .sq xs => by simp only [py, PyData.plain]; exact pyL_plain xs
  | .tup xs => by simp only [py, PyData.plain]; exact pyL_plain xs
  | .obj _ _ => by simp only [py, PyData.plain]
theorem pyL_plain : ∀ ds : List D, PyData.plainAll (pyL ds) = true
  | [] => by simp only [pyL, PyData.plainAll]
  | x :: xs => by simp only [pyL, PyData.plainAll, py_plain x, pyL_plain xs, Bool.and_self]
end
mutual
theorem Da.dp {K : PySem.W.Frag} {μ : Mu} {H : Hp} : ∀ {v : V} {d : D}, Da K μ H v d → pur d = true → Dp K H v (py d)
  | _, _, .non, _ => by simp only [py]; exact .non
  | _, _, .bl b, _ => by simp only [py]; exact .bl b
  | _, _, .int i, _ => by simp only [py]; exact .int i
  | _, _, .str x, _ => by simp only [py]; exact .str x
  | _, _, .ty n, h => by simp [pur] at h
  | _, _, .ref a, h => by simp [pur] at h
  | _, _, .lst n e l, h => by simp only [py]; exact .lst (SqL.of e) (DaL.dp l (by simpa only [pur] using h))
  | _, _, .sq e l, h => by simp only [py]; exact .lst (Da.sqL e) (DaL.dp l (by simpa only [pur] using h))
  | _, _, .tup e l, h => by simp only [py]; exact .tup (Da.sqT e) (DaL.dp l (by simpa only [pur] using h))
  | _, _, .obj _ _ _, h => by simp [pur] at h
theorem DaL.dp {K : PySem.W.Frag} {μ : Mu} {H : Hp} : ∀ {vs : List V} {ds : List D}, DaL K μ H vs ds → purL ds = true → DpAll K H vs (pyL ds)
  | _, _, .nil, _ => by simp only [pyL]; exact .nil
  | _, _, .cons h l, q => by
    simp only [purL, Bool.and_eq_true] at q
    simp only [pyL]
    exact .cons (Da.dp h q.1) (DaL.dp l q.2)
end
/-- a list that may change, as the list that it is now -/
def vw (μ : Mu) : D → D
  | .ref a => match μ a with
    | some (.lst xs) => .lst xs
    | _ => .ref a
  | d => d
theorem Da.vdp {K : PySem.W.Frag} {μ : Mu} {H : Hp} {v : V} {d : D} (j : J K μ H) (h : Da K μ H v d) (p : pur (vw μ d) = true) : Dp K H v (py (vw μ d)) := by
  cases d with
  | ref a =>
    cases h
    cases q : μ a with
    | none => simp [vw, q, pur] at p
    | some o =>
      cases o with
      | lst xs =>
        obtain ⟨vs, e, l⟩ := j a _ q
        simp only [vw, q, pur] at p ⊢
        simp only [py]
        exact .lst (SqL.of e) (l.dp p)
      | dK kvs => simp [vw, q, pur] at p
      | ins C fs => simp [vw, q, pur] at p
  | _ => exact h.dp p

/-! ### the judgements -/
abbrev Ro := List (Option D)
abbrev DQ := D → Mu → Prop
abbrev DE := Ro → Mu → DQ → Prop
abbrev DT := Ro → Mu → (Bool → Mu → Prop) → Prop
abbrev DA := Ro → Mu → (List D → Mu → Prop) → Prop
structure Okd (K : PySem.W.Frag) (μ : Mu) (H : Hp) (σ : L2.St) (ρ : Ro) : Prop where
  j : J K μ H
  len : σ.length = ρ.length
  of : ∀ (i : Nat) (d : D), ρ[i]? = some (some d) → ∃ v, σ[i]? = some (some v) ∧ Da K μ H v d
/-- what is wanted, below and above -/
def Kt (K : PySem.W.Frag) (μ : Mu) (H : Hp) (Q : VK) (Qd : DQ) : Prop := ∀ v d H' μ', Gr μ H μ' H' → J K μ' H' → Da K μ' H' v d → Qd d μ' → Q v H'
def KtL (K : PySem.W.Frag) (μ : Mu) (H : Hp) (Q : List V → Hp → Prop) (Qd : List D → Mu → Prop) : Prop := ∀ v d H' μ', Gr μ H μ' H' → J K μ' H' → DaL K μ' H' v d → Qd d μ' → Q v H'
def KtB (K : PySem.W.Frag) (μ : Mu) (H : Hp) (Q : Bool → Hp → Prop) (Qd : Bool → Mu → Prop) : Prop := ∀ b H' μ', Gr μ H μ' H' → J K μ' H' → Qd b μ' → Q b H'
section
variable {K : PySem.W.Frag} {μ μ1 : Mu} {H H1 : Hp} {σ : L2.St} {ρ : Ro}
theorem Okd.grow (o : Okd K μ H σ ρ) (g : Gr μ H μ1 H1) (j : J K μ1 H1) : Okd K μ1 H1 σ ρ := ⟨j, o.len, fun i d e => let ⟨v, e1, h⟩ := o.of i d e; ⟨v, e1, h.grow g⟩⟩
theorem Okd.set (o : Okd K μ H σ ρ) {v : V} {d : D} (i : Nat) (h : Da K μ H v d) : Okd K μ H (σ.set i (some v)) (ρ.set i (some d)) := by
  refine ⟨o.j, by simpa using o.len, fun k e he => ?_⟩
  by_cases hk : k = i
  · subst hk
    by_cases hl : k < ρ.length
    · rw [List.getElem?_set_self hl] at he
      cases he
      exact ⟨v, List.getElem?_set_self (by rw [o.len]; exact hl), h⟩
    · rw [List.getElem?_eq_none (by simpa using hl)] at he
      cases he
  · rw [List.getElem?_set_ne (Ne.symm hk)] at he ⊢
    exact o.of k e he
theorem Kt.after {Q : VK} {Qd : DQ} (k : Kt K μ H Q Qd) (g : Gr μ H μ1 H1) : Kt K μ1 H1 Q Qd := fun v d H' μ' g' j h q => k v d H' μ' (g.trans g') j h q
theorem KtL.after {Q : List V → Hp → Prop} {Qd : List D → Mu → Prop} (k : KtL K μ H Q Qd) (g : Gr μ H μ1 H1) : KtL K μ1 H1 Q Qd := fun v d H' μ' g' j h q => k v d H' μ' (g.trans g') j h q
theorem KtB.after {Q : Bool → Hp → Prop} {Qd : Bool → Mu → Prop} (k : KtB K μ H Q Qd) (g : Gr μ H μ1 H1) : KtB K μ1 H1 Q Qd := fun b H' μ' g' j q => k b H' μ' (g.trans g') j q
theorem Kt.now {Q : VK} {Qd : DQ} (k : Kt K μ H Q Qd) (j : J K μ H) {v : V} {d : D} (h : Da K μ H v d) (q : Qd d μ) : Q v H := k v d H μ Gr.refl j h q
/-- a new datum -/
theorem Kt.new {Q : VK} {Qd : DQ} (k : Kt K μ H Q Qd) (j : J K μ H) {p : Addr} {o : HO} {d : D} (n : H p = none) (h : Da K μ (upd H p o) (.ref p) d) (q : Qd d μ) : Q (.ref p) (upd H p o) :=
  k _ d _ μ (Gr.laid n) (j.laid n) h q
theorem da_tup {vs : List V} {ds : List D} {p : Addr} (j : J K μ H) (n : H p = none) (l : DaL K μ H vs ds) : Da K μ (upd H p (.tup vs)) (.ref p) (.tup ds) := .tup (.inl ⟨j.free n, .inl upd_same⟩) (l.grow (Gr.laid n))
theorem da_lst {vs : List V} {ds : List D} {p : Addr} (j : J K μ H) (n : H p = none) (l : DaL K μ H vs ds) : Da K μ (upd H p (.lst vs)) (.ref p) (.lst ds) := .lst (j.free n) upd_same (l.grow (Gr.laid n))
end

structure PD (X : Cx) (e : Expr) (t : DE) : Prop where
  ex : ∃ te, PE X e te ∧ ∀ {σ : L2.St} {H : Hp} {ρ : Ro} {μ : Mu} {Q : VK} {Qd : DQ}, Okd X.K μ H σ ρ → t ρ μ Qd → Kt X.K μ H Q Qd → te σ H Q
structure PDT (X : Cx) (e : Expr) (t : DT) : Prop where
  ex : ∃ te, PT X e te ∧ ∀ {σ : L2.St} {H : Hp} {ρ : Ro} {μ : Mu} {Q : Bool → Hp → Prop} {Qd : Bool → Mu → Prop}, Okd X.K μ H σ ρ → t ρ μ Qd → KtB X.K μ H Q Qd → te σ H Q
structure PDW (X : Cx) (e : Expr) (t : DT) : Prop where
  ex : ∃ te, PW X e te ∧ ∀ {σ : L2.St} {H : Hp} {ρ : Ro} {μ : Mu} {Q : Bool → Hp → Prop} {Qd : Bool → Mu → Prop}, Okd X.K μ H σ ρ → t ρ μ Qd → KtB X.K μ H Q Qd → te σ H Q
structure PDA (X : Cx) (es : List Expr) (t : DA) : Prop where
  ex : ∃ te, PA X es te ∧ ∀ {σ : L2.St} {H : Hp} {ρ : Ro} {μ : Mu} {Q : List V → Hp → Prop} {Qd : List D → Mu → Prop}, Okd X.K μ H σ ρ → t ρ μ Qd → KtL X.K μ H Q Qd → te σ H Q
structure PDK (X : Cx) (es : List Keyword) (t : DA) : Prop where
  ex : ∃ te, PK X es te ∧ ∀ {σ : L2.St} {H : Hp} {ρ : Ro} {μ : Mu} {Q : List V → Hp → Prop} {Qd : List D → Mu → Prop}, Okd X.K μ H σ ρ → t ρ μ Qd → KtL X.K μ H Q Qd → te σ H Q

/-! ### expressions -/
def slot : Ro → Nat → Option D
  | [], _ => none
  | x :: _, 0 => x
  | _ :: r, n + 1 => slot r n
theorem slot_get : ∀ {ρ : Ro} {i : Nat} {d : D}, slot ρ i = some d → ρ[i]? = some (some d)
  | [], _, _, h => by simp [slot] at h
  | x :: _, 0, d, h => by simp only [slot] at h; subst h; rfl
  | _ :: r, n + 1, d, h => by simpa using slot_get (ρ := r) (i := n) (d := d) h
def dVar (i : Nat) : DE := fun ρ μ Q => match slot ρ i with
  | some d => Q d μ
  | none => False
def dC (d : D) : DE := fun _ μ Q => Q d μ
abbrev G2 := D → D → Mu → DQ → Prop
def dOp (g : G2) (ta tb : DE) : DE := fun ρ μ Q => ta ρ μ fun x μ1 => tb ρ μ1 fun y μ2 => g x y μ2 Q
def dNil : DA := fun _ μ Q => Q [] μ
def dCons (ta : DE) (tr : DA) : DA := fun ρ μ Q => ta ρ μ fun x μ1 => tr ρ μ1 fun xs μ2 => Q (x :: xs) μ2
/-- an operation on values and on data -/
def Lf2 (K : PySem.W.Frag) (r : R2) (g : G2) : Prop := ∀ {x y : V} {dx dy : D} {H : Hp} {μ : Mu} {Q : VK} {Qd : DQ}, J K μ H → Da K μ H x dx → Da K μ H y dy → g dx dy μ Qd → Kt K μ H Q Qd → r x y H Q
def Lf1 (K : PySem.W.Frag) (r : V → Hp → VK → Prop) (g : D → Mu → DQ → Prop) : Prop := ∀ {x : V} {dx : D} {H : Hp} {μ : Mu} {Q : VK} {Qd : DQ}, J K μ H → Da K μ H x dx → g dx μ Qd → Kt K μ H Q Qd → r x H Q
def LfL (K : PySem.W.Frag) (r : List V → Hp → VK → Prop) (g : List D → Mu → DQ → Prop) : Prop := ∀ {xs : List V} {ds : List D} {H : Hp} {μ : Mu} {Q : VK} {Qd : DQ}, J K μ H → DaL K μ H xs ds → g ds μ Qd → Kt K μ H Q Qd → r xs H Q
section
variable {X : Cx} {a b e : Expr} {es : List Expr} {ta tb te : DE} {tA : DA} {pos p : Pos}
theorem pd_var (i : Nat) {x : Str} (hN : X.N[i]? = some x := by rfl) (hv : Vis X.env.scope x := by first | exact Or.inl rfl | exact Or.inr (Or.inl rfl) | exact Or.inr (Or.inr rfl)) (hd : (x == ("__debug__" : Str)) = false := by decide)
    (hcd : (x == ("__classdict__" : Str)) = false := by decide) : PD X (.Name x pos) (dVar i) := by
  refine ⟨_, pe_var hN hv hd hcd, @fun σ H ρ μ Q Qd o t k => ?_⟩
  unfold dVar at t
  cases q : slot ρ i with
  | none => rw [q] at t; exact t.elim
  | some d =>
    rw [q] at t
    obtain ⟨v, e, h⟩ := o.of i d (slot_get q)
    exact ⟨v, e, k.now o.j h t⟩
/-- a written constant, a constant of the module -/
theorem pd_k {v : V} {d : D} (h : PE X e (tC v)) (hd : ∀ μ H, Da X.K μ H v d) : PD X e (dC d) := ⟨_, h, @fun σ H ρ μ Q Qd o t k => k.now o.j (hd μ H) t⟩
theorem pd_int {i j} : PD X (.Constant (.int i) j pos) (dC (.int i)) := pd_k pe_int fun _ _ => .int i
theorem pd_str {i j} : PD X (.Constant (.str i) j pos) (dC (.str i)) := pd_k pe_str fun _ _ => .str i
theorem pd_bl {i j} : PD X (.Constant (.bool i) j pos) (dC (.bl i)) := pd_k pe_bl fun _ _ => .bl i
theorem pd_non {j} : PD X (.Constant .none j pos) (dC .non) := pd_k pe_non fun _ _ => .non
theorem pd_glob {x : Str} {v : V} {u : Value} {d : D} (hm : X.mg x = some u) (r : RelV v u) (hd : ∀ μ H, Da X.K μ H v d) (hg : Gl X x) (hdb : (x == ("__debug__" : Str)) = false := by decide) : PD X (.Name x pos) (dC d) := pd_k (pe_glob hg hm r hdb) hd

theorem pd_gs {x z : Str} (h : ∃ t, X.mg x = some (.str z t)) (hg : Gl X x := by rfl) (hdb : (x == ("__debug__" : Str)) = false := by decide) : PD X (.Name x pos) (dC (.str z)) :=
  pd_glob (v := .str z) h.choose_spec ⟨_, rfl⟩ (fun _ _ => .str z) hg hdb
theorem pd_gi {x : Str} {z : Int} (h : ∃ t, X.mg x = some (.int z t)) (hg : Gl X x := by rfl) (hdb : (x == ("__debug__" : Str)) = false := by decide) : PD X (.Name x pos) (dC (.int z)) :=
  pd_glob (v := .int z) h.choose_spec ⟨_, rfl⟩ (fun _ _ => .int z) hg hdb

theorem pd_op {op : Operator} {r : R2} {g : G2} (ho : OpR X (binaryOp op) r) (hg : Lf2 X.K r g) (ha : PD X a ta) (hb : PD X b tb) : PD X (.BinOp a op b pos) (dOp g ta tb) := by
  obtain ⟨ea, pa, fa⟩ := ha.ex
  obtain ⟨eb, pb, fb⟩ := hb.ex
  refine ⟨_, pe_op ho pa pb, @fun σ H ρ μ Q Qd o t k => ?_⟩
  refine fa o t fun x dx H1 μ1 g1 j1 h1 t1 => ?_
  refine fb (o.grow g1 j1) t1 fun y dy H2 μ2 g2 j2 h2 t2 => ?_
  exact hg j2 (h1.grow g2) h2 t2 (k.after (g1.trans g2))
theorem pd_cmp {op : CmpOp} {r : R2} {g : G2} (ho : OpR X (compareOp op) r) (hg : Lf2 X.K r g) (ha : PD X a ta) (hb : PD X b tb) (hm : behindInMarks op b = false) : PD X (.Compare a [op] [b] pos) (dOp g ta tb) := by
  obtain ⟨ea, pa, fa⟩ := ha.ex
  obtain ⟨eb, pb, fb⟩ := hb.ex
  refine ⟨_, pe_cmpR ho pa pb hm, @fun σ H ρ μ Q Qd o t k => ?_⟩
  refine fa o t fun x dx H1 μ1 g1 j1 h1 t1 => ?_
  refine fb (o.grow g1 j1) t1 fun y dy H2 μ2 g2 j2 h2 t2 => ?_
  exact hg j2 (h1.grow g2) h2 t2 (k.after (g1.trans g2))
theorem pd_ix {r : R2} {g : G2} (ho : IxR X r) (hg : Lf2 X.K r g) (ha : PD X a ta) (hb : PD X b tb) (hs : PlainIx b := by exact fun _ _ => rfl) : PD X (.Subscript a b pos) (dOp g ta tb) := by
  obtain ⟨ea, pa, fa⟩ := ha.ex
  obtain ⟨eb, pb, fb⟩ := hb.ex
  refine ⟨_, pe_ix ho pa pb hs, @fun σ H ρ μ Q Qd o t k => ?_⟩
  refine fa o t fun x dx H1 μ1 g1 j1 h1 t1 => ?_
  refine fb (o.grow g1 j1) t1 fun y dy H2 μ2 g2 j2 h2 t2 => ?_
  exact hg j2 (h1.grow g2) h2 t2 (k.after (g1.trans g2))
def dUn (g : D → Mu → DQ → Prop) (ta : DE) : DE := fun ρ μ Q => ta ρ μ fun x μ1 => g x μ1 Q
theorem pd_un {op : UnaryOp} {r : V → Hp → VK → Prop} {g : D → Mu → DQ → Prop} (ho : UnR X (unaryOp op) r) (hg : Lf1 X.K r g) (ha : PD X a ta) : PD X (.UnaryOp op a pos) (dUn g ta) := by
  obtain ⟨ea, pa, fa⟩ := ha.ex
  refine ⟨_, pe_un ho pa, @fun σ H ρ μ Q Qd o t k => ?_⟩
  exact fa o t fun x dx H1 μ1 g1 j1 h1 t1 => hg j1 h1 t1 (k.after g1)

/-! argument lists, displays -/
theorem pda_nil : PDA X [] dNil := ⟨_, pa_nil, @fun σ H ρ μ Q Qd o t k => k _ _ _ _ Gr.refl o.j .nil t⟩
theorem pda_cons (ha : PD X e te) (hr : PDA X es tA) (hs : starEach (e :: es) X.env = (false, eval e X.env) :: starEach es X.env := by rfl) : PDA X (e :: es) (dCons te tA) := by
  obtain ⟨ea, pa, fa⟩ := ha.ex
  obtain ⟨eb, pb, fb⟩ := hr.ex
  refine ⟨_, pa_cons pa pb hs, @fun σ H ρ μ Q Qd o t k => ?_⟩
  refine fa o t fun x dx H1 μ1 g1 j1 h1 t1 => ?_
  refine fb (o.grow g1 j1) t1 fun y dy H2 μ2 g2 j2 h2 t2 => ?_
  exact k _ _ _ _ (g1.trans g2) j2 (.cons (h1.grow g2) h2) t2
theorem pdk_nil : PDK X [] dNil := ⟨_, pk_nil, @fun σ H ρ μ Q Qd o t k => k _ _ _ _ Gr.refl o.j .nil t⟩
theorem pdk_cons {kws : List Keyword} {nm : Option Str} {kpos : Pos} (ha : PD X e te) (hr : PDK X kws tA) : PDK X (⟨nm, e, kpos⟩ :: kws) (dCons te tA) := by
  obtain ⟨ea, pa, fa⟩ := ha.ex
  obtain ⟨eb, pb, fb⟩ := hr.ex
  refine ⟨_, pk_cons pa pb, @fun σ H ρ μ Q Qd o t k => ?_⟩
  refine fa o t fun x dx H1 μ1 g1 j1 h1 t1 => ?_
  refine fb (o.grow g1 j1) t1 fun y dy H2 μ2 g2 j2 h2 t2 => ?_
  exact k _ _ _ _ (g1.trans g2) j2 (.cons (h1.grow g2) h2) t2
def dTup (t : DA) : DE := fun ρ μ Q => t ρ μ fun xs μ1 => xs.length ≤ sizeLine ∧ Q (.tup xs) μ1
def dLst (t : DA) : DE := fun ρ μ Q => t ρ μ fun xs μ1 => xs.length ≤ sizeLine ∧ Q (.lst xs) μ1
/-- a list that will be changed -/
def dLstM (t : DA) : DE := fun ρ μ Q => t ρ μ fun xs μ1 => xs.length ≤ sizeLine ∧ ∀ p, μ1 p = none → Q (.ref p) (mup μ1 p (.lst xs))
theorem pd_tup {x1} (h : PDA X es tA) : PD X (.Tuple es x1 pos) (dTup tA) := by
  obtain ⟨ea, pa, fa⟩ := h.ex
  refine ⟨_, pe_tup pa, @fun σ H ρ μ Q Qd o t k => ?_⟩
  refine fa o t fun x dx H1 μ1 g1 j1 h1 t1 => ⟨h1.length ▸ t1.1, fun p n => ?_⟩
  exact (k.after g1).new j1 n (da_tup j1 n h1) t1.2
theorem pd_lst (h : PDA X es tA) : PD X (.List es pos) (dLst tA) := by
  obtain ⟨ea, pa, fa⟩ := h.ex
  refine ⟨_, pe_lst pa, @fun σ H ρ μ Q Qd o t k => ?_⟩
  refine fa o t fun x dx H1 μ1 g1 j1 h1 t1 => ⟨h1.length ▸ t1.1, fun p n => ?_⟩
  exact (k.after g1).new j1 n (da_lst j1 n h1) t1.2
theorem pd_lstM (h : PDA X es tA) : PD X (.List es pos) (dLstM tA) := by
  obtain ⟨ea, pa, fa⟩ := h.ex
  refine ⟨_, pe_lst pa, @fun σ H ρ μ Q Qd o t k => ?_⟩
  refine fa o t fun x dx H1 μ1 g1 j1 h1 t1 => ⟨h1.length ▸ t1.1, fun p n => ?_⟩
  exact (k.after g1) _ _ _ _ (Gr.born n) (j1.born (u := .lst dx) n ⟨_, upd_same, h1.grow (Gr.born n)⟩) (.ref p) (t1.2 p (j1.free n))

/-! calls -/
def dCB (g : List D → Mu → DQ → Prop) (t : DA) : DE := fun ρ μ Q => t ρ μ fun ds μ1 => g ds μ1 Q
theorem pd_b {x : Str} {id : String} {r : List V → Hp → VK → Prop} {g : List D → Mu → DQ → Prop} (hc : CallR X (.builtin id) r) (hl : LfL X.K r g) (hm : X.mg x = none) (hv : bootBuiltins x = some (.builtin id)) (ha : PDA X (e :: es) tA) (hg : Gl X x := by rfl)
    (hn : x ≠ "__name__" := by decide) (hdb : (x == ("__debug__" : Str)) = false := by decide)
    (he : starEach (e :: es) X.env = (false, eval e X.env) :: starEach es X.env := by rfl) (hpl : (backTo pos (starEach es X.env)).any (·.1) = false := by rfl) : PD X (.Call (.Name x p) (e :: es) [] pos) (dCB g tA) := by
  obtain ⟨ea, pa, fa⟩ := ha.ex
  refine ⟨_, pe_callB hc hg hm hv pa hn hdb he hpl, @fun σ H ρ μ Q Qd o t k => ?_⟩
  exact fa o t fun x dx H1 μ1 g1 j1 h1 t1 => hl j1 h1 t1 (k.after g1)
theorem pd_ty {x : Str} {T : String} {r : List V → Hp → VK → Prop} {g : List D → Mu → DQ → Prop} (hc : CallR X (.type T) r) (hl : LfL X.K r g) (hm : X.mg x = none) (hv : bootBuiltins x = some (.type T)) (ha : PDA X (e :: es) tA) (hg : Gl X x := by rfl)
    (hn : x ≠ "__name__" := by decide) (hdb : (x == ("__debug__" : Str)) = false := by decide)
    (he : starEach (e :: es) X.env = (false, eval e X.env) :: starEach es X.env := by rfl) (hpl : (backTo pos (starEach es X.env)).any (·.1) = false := by rfl) : PD X (.Call (.Name x p) (e :: es) [] pos) (dCB g tA) := by
  obtain ⟨ea, pa, fa⟩ := ha.ex
  refine ⟨_, pe_callTy hc hg hm hv pa hn hdb he hpl, @fun σ H ρ μ Q Qd o t k => ?_⟩
  exact fa o t fun x dx H1 μ1 g1 j1 h1 t1 => hl j1 h1 t1 (k.after g1)

/-- a promise over data -/
abbrev SpD := List D → Mu → DQ → Prop
def up (K : PySem.W.Frag) (spd : SpD) : Sp := fun vs H Q _ => ∃ ds μ Qd, J K μ H ∧ DaL K μ H vs ds ∧ spd ds μ Qd ∧ Kt K μ H Q Qd
/-- a def of the module that may be called by its name -/
structure Cl (P : Program) (w : World) (K : PySem.W.Frag) (mg : Str → Option Value) (base : Heap) (k : Nat) (x : Str) (f : Addr) (fd : FuncData) (ps : List Str) (spd : SpD) : Prop where
  fn : FnG P w K mg base CX0 k f fd ps (up K spd)
  nm : mg x = some (.ref f)
  kp : PySem.W.keepIn K (.ref f) = true
  bd : Binds K fd ps []
def dCall (spd : SpD) (t : DA) : DE := fun ρ μ Q => t ρ μ fun ds μ1 => spd ds μ1 Q
theorem pd_call {x : Str} {k j : Nat} {f : Addr} {fd : FuncData} {ps : List Str} {spd : SpD} (c : Cl X.prog X.w X.K X.mg X.base k x f fd ps spd) (hr : Room j X.A) (hgu : X.A.guards = some []) (ha : PDA X (e :: es) tA) (hk : k ≤ j := by decide) (hg : Gl X x := by rfl)
    (hdb : (x == ("__debug__" : Str)) = false := by decide) (he : starEach (e :: es) X.env = (false, eval e X.env) :: starEach es X.env := by rfl) (hpl : (backTo pos (starEach es X.env)).any (·.1) = false := by rfl) :
    PD X (.Call (.Name x p) (e :: es) [] pos) (dCall spd tA) := by
  obtain ⟨ea, pa, fa⟩ := ha.ex
  refine ⟨_, pe_callG c.fn (hr.mono hk) hgu hg c.nm c.kp c.bd .nil pass0 pa hdb he hpl, @fun σ H ρ μ Q Qd o t k => ?_⟩
  refine fa o t fun vs ds H1 μ1 g1 j1 h1 t1 => ?_
  rw [List.append_nil]
  exact ⟨ds, μ1, Qd, j1, h1, t1, k.after g1⟩
def dCallK (spd : SpD) (gD : List D → List D) (t : DA) : DE := fun ρ μ Q => t ρ μ fun ds μ1 => spd (gD ds) μ1 Q
theorem pd_callK {x : Str} {k j : Nat} {f : Addr} {fd : FuncData} {ps ks : List Str} {spd : SpD} {kws : List Keyword} {gg : List Value → List Value → List Value} {gV : List V → List V → List V} {gD : List D → List D} (c : Cl X.prog X.w X.K X.mg X.base k x f fd ps spd)
    (kb : KBinds X.K fd ps ks gg gV) (hD : ∀ {μ : Mu} {H : Hp} {vs : List V} {ds : List D}, DaL X.K μ H vs ds → DaL X.K μ H (gV [] vs) (gD ds)) (hr : Room j X.A) (hgu : X.A.guards = some []) (ha : PDK X kws tA) (hk : k ≤ j := by decide) (hg : Gl X x := by rfl)
    (hall : (backToKw pos (keywordEach kws X.env)).all (·.1.isSome) = true := by rfl) (hks : (backToKw pos (keywordEach kws X.env)).filterMap (·.1) = ks := by rfl)
    (hdb : (x == ("__debug__" : Str)) = false := by decide) (hpl : ((backTo pos (starEach [] X.env)).any (·.1) || (backToKw pos (keywordEach kws X.env)).any (·.1.isNone)) = false := by rfl) :
    PD X (.Call (.Name x p) [] kws pos) (dCallK spd gD tA) := by
  obtain ⟨ea, pa, fa⟩ := ha.ex
  refine ⟨_, pe_callKG0 c.fn (hr.mono hk) hgu hg c.nm c.kp kb pass0 pa hall hks hdb hpl, @fun σ H ρ μ Q Qd o t k => ?_⟩
  exact fa o t fun vs ds H1 μ1 g1 j1 h1 t1 => ⟨gD ds, μ1, Qd, j1, hD h1, t1, k.after g1⟩

/-! and, or, not, if: values that are bools; tests -/
def dAnd (ta tb : DE) : DE := fun ρ μ Q => ta ρ μ fun x μ1 => match x with
  | .bl true => tb ρ μ1 Q
  | .bl false => Q (.bl false) μ1
  | _ => False
def dOr (ta tb : DE) : DE := fun ρ μ Q => ta ρ μ fun x μ1 => match x with
  | .bl true => Q (.bl true) μ1
  | .bl false => tb ρ μ1 Q
  | _ => False
variable {rest : List Expr} {tT tU : DT}
theorem pd_one {op} (h : PD X a ta) : PD X (.BoolOp op [a] pos) ta := by
  obtain ⟨ea, pa, fa⟩ := h.ex
  exact ⟨_, pe_one pa, @fun σ H ρ μ Q Qd o t k => fa o t k⟩
theorem pd_and (ha : PD X a ta) (hb : PD X (.BoolOp .And (b :: rest) pos) tb) : PD X (.BoolOp .And (a :: b :: rest) pos) (dAnd ta tb) := by
  obtain ⟨ea, pa, fa⟩ := ha.ex
  obtain ⟨eb, pb, fb⟩ := hb.ex
  refine ⟨_, pe_and pa pb, @fun σ H ρ μ Q Qd o t k => ?_⟩
  refine fa o t fun x dx H1 μ1 g1 j1 h1 t1 => ?_
  match dx, h1, t1 with
  | .bl true, .bl _, t1 => exact ⟨true, rfl, iteT (fb (o.grow g1 j1) t1 (k.after g1))⟩
  | .bl false, .bl _, t1 => exact ⟨false, rfl, iteF ((k.after g1).now j1 (.bl false) t1)⟩
theorem pd_or (ha : PD X a ta) (hb : PD X (.BoolOp .Or (b :: rest) pos) tb) : PD X (.BoolOp .Or (a :: b :: rest) pos) (dOr ta tb) := by
  obtain ⟨ea, pa, fa⟩ := ha.ex
  obtain ⟨eb, pb, fb⟩ := hb.ex
  refine ⟨_, pe_or pa pb, @fun σ H ρ μ Q Qd o t k => ?_⟩
  refine fa o t fun x dx H1 μ1 g1 j1 h1 t1 => ?_
  match dx, h1, t1 with
  | .bl true, .bl _, t1 => exact ⟨true, rfl, iteT ((k.after g1).now j1 (.bl true) t1)⟩
  | .bl false, .bl _, t1 => exact ⟨false, rfl, iteF (fb (o.grow g1 j1) t1 (k.after g1))⟩
def gNot : D → Mu → DQ → Prop
  | .bl b, μ, Q => Q (.bl (!b)) μ
  | _, _, _ => False
theorem pd_not (ha : PD X a ta) : PD X (.UnaryOp .Not a pos) (dUn gNot ta) := by
  obtain ⟨ea, pa, fa⟩ := ha.ex
  refine ⟨_, pe_not pa, @fun σ H ρ μ Q Qd o t k => ?_⟩
  refine fa o t fun x dx H1 μ1 g1 j1 h1 t1 => ?_
  match dx, h1, t1 with
  | .bl b, .bl _, t1 => exact ⟨b, rfl, (k.after g1).now j1 (.bl _) t1⟩
def dB (ta : DE) : DT := fun ρ μ Q => ta ρ μ fun x μ1 => match x with
  | .bl b => Q b μ1
  | _ => False
theorem pt_b (h : PD X e te) (he : ∀ whole, isTrue e X.env whole = (do let v ← whole; standAt e.pos; holding [v] (truthy v)) := by intro _; rfl) : PDT X e (dB te) := by
  obtain ⟨ea, pa, fa⟩ := h.ex
  refine ⟨_, pt_val pa he, @fun σ H ρ μ Q Qd o t k => ?_⟩
  refine fa o t fun x dx H1 μ1 g1 j1 h1 t1 => ?_
  match dx, h1, t1 with
  | .bl b, .bl _, t1 => exact ⟨b, rfl, k b _ _ g1 j1 t1⟩
/-- a comparison as a test -/
theorem pt_c {op : CmpOp} {r : R2} {g : G2} (ho : OpR X (compareOp op) r) (hg : Lf2 X.K r g) (ha : PD X a ta) (hb : PD X b tb) (hm : behindInMarks op b = false) : PDT X (.Compare a [op] [b] pos) (dB (dOp g ta tb)) := by
  obtain ⟨ea, pa, fa⟩ := ha.ex
  obtain ⟨eb, pb, fb⟩ := hb.ex
  refine ⟨_, pt_cmpR ho pa pb hm, @fun σ H ρ μ Q Qd o t k => ?_⟩
  refine fa o t fun x dx H1 μ1 g1 j1 h1 t1 => ?_
  refine fb (o.grow g1 j1) t1 fun y dy H2 μ2 g2 j2 h2 t2 => ?_
  refine hg j2 (h1.grow g2) h2 t2 fun z dz H3 μ3 g3 j3 h3 t3 => ?_
  match dz, h3, t3 with
  | .bl b, .bl _, t3 => exact ⟨b, rfl, k b _ _ ((g1.trans g2).trans g3) j3 t3⟩
def dAndT (t u : DT) : DT := fun ρ μ Q => t ρ μ fun c μ1 => if c = true then u ρ μ1 Q else Q false μ1
def dOrT (t u : DT) : DT := fun ρ μ Q => t ρ μ fun c μ1 => if c = true then Q true μ1 else u ρ μ1 Q
def dNotT (t : DT) : DT := fun ρ μ Q => t ρ μ fun c μ1 => Q (!c) μ1
theorem pt_w (h : PDW X e tT) : PDT X e tT := by
  obtain ⟨ea, pa, fa⟩ := h.ex
  exact ⟨_, pa.pt, @fun σ H ρ μ Q Qd o t k => fa o t k⟩
theorem pw_a1 (h : PDT X a tT) : PDW X (.BoolOp .And [a] pos) tT := by
  obtain ⟨ea, pa, fa⟩ := h.ex
  exact ⟨_, pw_and1 pa, @fun σ H ρ μ Q Qd o t k => fa o t k⟩
theorem pw_o1 (h : PDT X a tT) : PDW X (.BoolOp .Or [a] pos) tT := by
  obtain ⟨ea, pa, fa⟩ := h.ex
  exact ⟨_, pw_or1 pa, @fun σ H ρ μ Q Qd o t k => fa o t k⟩
theorem pw_a (ha : PDT X a tT) (hb : PDW X (.BoolOp .And (b :: rest) pos) tU) : PDW X (.BoolOp .And (a :: b :: rest) pos) (dAndT tT tU) := by
  obtain ⟨ea, pa, fa⟩ := ha.ex
  obtain ⟨eb, pb, fb⟩ := hb.ex
  refine ⟨_, L2.pw_and pa pb, @fun σ H ρ μ Q Qd o t k => ?_⟩
  refine fa o t fun c H1 μ1 g1 j1 t1 => ?_
  cases c with
  | true => exact iteT (fb (o.grow g1 j1) (by simpa using t1) (k.after g1))
  | false => exact iteF (k _ _ _ g1 j1 (by simpa using t1))
theorem pw_o (ha : PDT X a tT) (hb : PDW X (.BoolOp .Or (b :: rest) pos) tU) : PDW X (.BoolOp .Or (a :: b :: rest) pos) (dOrT tT tU) := by
  obtain ⟨ea, pa, fa⟩ := ha.ex
  obtain ⟨eb, pb, fb⟩ := hb.ex
  refine ⟨_, L2.pw_or pa pb, @fun σ H ρ μ Q Qd o t k => ?_⟩
  refine fa o t fun c H1 μ1 g1 j1 t1 => ?_
  cases c with
  | true => exact iteT (k _ _ _ g1 j1 (by simpa using t1))
  | false => exact iteF (fb (o.grow g1 j1) (by simpa using t1) (k.after g1))
theorem pt_n (ha : PDT X a tT) : PDT X (.UnaryOp .Not a pos) (dNotT tT) := by
  obtain ⟨ea, pa, fa⟩ := ha.ex
  exact ⟨_, L2.pt_not pa, @fun σ H ρ μ Q Qd o t k => fa o t fun c H1 μ1 g1 j1 t1 => k _ _ _ g1 j1 t1⟩
def dIfE (t : DT) (ta tb : DE) : DE := fun ρ μ Q => t ρ μ fun c μ1 => if c = true then ta ρ μ1 Q else tb ρ μ1 Q
theorem pd_if {c : Expr} (hc : PDT X c tT) (ha : PD X a ta) (hb : PD X b tb) : PD X (.IfExp c a b pos) (dIfE tT ta tb) := by
  obtain ⟨ec, pc, fc⟩ := hc.ex
  obtain ⟨ea, pa, fa⟩ := ha.ex
  obtain ⟨eb, pb, fb⟩ := hb.ex
  refine ⟨_, pe_ifExp pc pa pb, @fun σ H ρ μ Q Qd o t k => ?_⟩
  refine fc o t fun c H1 μ1 g1 j1 t1 => ?_
  cases c with
  | true => exact iteT (fa (o.grow g1 j1) (by simpa using t1) (k.after g1))
  | false => exact iteF (fb (o.grow g1 j1) (by simpa using t1) (k.after g1))
end
end Dl

/-! t[::-1] of a tuple -/
namespace Dl
open PySem PySem.Spec PyProof.Rows L2
theorem fm_congr {β : Type} {f g : Nat → Option β} : ∀ {l : List Nat}, (∀ k ∈ l, f k = g k) → l.filterMap f = l.filterMap g
  | [], _ => rfl
  | k :: l, h => by
    rw [List.filterMap_cons, List.filterMap_cons, h k List.mem_cons_self, fm_congr fun z hz => h z (List.mem_cons_of_mem _ hz)]
theorem pick_back (items : Array Value) : (((List.range items.size).filterMap fun (k : Nat) => items[(((items.size : Int) - 1) + (k : Int) * (-1)).toNat]?)).toArray = items.toList.reverse.toArray := by
  congr 1
  rw [← PySem.W.krv_all items, ← List.filterMap_reverse]
  have : (List.range items.size).reverse = (List.range items.size).map fun k => items.size - 1 - k := (PySem.W.krv_range items.size).symm
  rw [this, List.filterMap_map]
  refine fm_congr fun k hk => ?_
  have hk' := List.mem_range.mp hk
  have e : (((items.size : Int) - 1) + (k : Int) * (-1)).toNat = items.size - 1 - k := by omega
  rw [e]
  first | done | rfl
section
variable {prog : Program} {w : World} {A : Around} {E : Value → Shared → Prop} {s : Shared}
theorem getItem_tuple_back {t sl : Addr} {items : Array Value} {vl vu vs : Value} {Q : Value → Shared → Prop} (ht : IsTup s.heap t items) (hs : s.heap.IsSliceOf sl vl vu vs) (pl : IsPart vl none) (pu : IsPart vu none) (ps : IsPart vs (some (-1)))
    (h : Q (.ref s.heap.objs.size) { s with heap := s.heap.push { cls := .type "tuple", data := .seq items.toList.reverse.toArray } }) (hz : items.size ≤ sizeLine) : wpAny (model prog w) A (getItem (.ref t) (.ref sl)) Q E s := by
  have hz' : sizeOk (.seq items.toList.reverse.toArray) := by
    show items.toList.reverse.toArray.size ≤ sizeLine
    rw [List.size_toArray, List.length_reverse, Array.length_toList]
    exact hz
  obtain ⟨os, hos, hcs, hds⟩ := id hs
  have hT : s.TypeIs (.ref sl) "slice" := ⟨os, hos, hcs⟩
  cases pl
  cases pu
  cases ps with | int _ tk =>
  unfold getItem
  try with_reducible refine wpAny_holding ?_
  first | refine wpAny_bind (wpAny_pure ?_) | skip
  refine wpAny_bind (wpAny_sequenceKey ht.typeIs (by decide) (wpAny_bind (wpAny_callSpecial?_slot (name := Str.ofString "__getitem__") ht.typeIs PyProof.Rows.slot_tuple_getitem
    (wpAny_call_entry PyProof.Rows.slot_tuple_getitem ht.typeIs entry_tuple_getitem ?_ (args_tuple_getitem _ _)))))
  show wpAny _ _ (Builtin.Tuple.tupleItemsOf (.ref t) >>= _) _ _ s
  refine wpAny_bind (tupleItemsOf_ ht (wpAny_bind (wpAny_typeOf hT ?_)))
  rw [if_pos (by decide)]
  have ap : ∀ {R : Int × Int × Nat → Shared → Prop} {EE : Value → Shared → Prop} {B : Around}, R ((items.size : Int) - 1, -1, items.size) s → wpAny (model prog w) B (Builtin.Slice.sliceApplied (.ref sl) (pure (items.size : Int))) R EE s := by
    intro R EE B q
    unfold Builtin.Slice.sliceApplied Builtin.Slice.sliceFields
    refine wpAny_bind (wpAny_bind (wpAny_field hos hds (x := .none) rfl (wpAny_bind (wpAny_field hos hds (x := .none) rfl (wpAny_bind (wpAny_field hos hds (x := .int (-1) tk) rfl (wpAny_pure ?_)))))))
    refine wpAny_bind (slicePart_int ?_)
    show wpAny _ _ (if ((-1 : Int) == 0) = true then _ else _) _ _ s
    rw [if_neg (by decide)]
    refine wpAny_bind (slicePart_none (wpAny_bind (slicePart_none (wpAny_bind (wpAny_pure ?_)))))
    have e1 : Builtin.Slice.sliceAdjust none none (-1) (items.size : Int) = ((items.size : Int) - 1, -1) := rfl
    have e2 : Builtin.Slice.slicePlaces ((items.size : Int) - 1) (-1) (-1) = items.size := by
      unfold Builtin.Slice.slicePlaces
      rw [if_neg (by decide)]
      by_cases c : (items.size : Int) - 1 > -1
      · rw [if_pos c, show (-(-1) : Int) = 1 by decide, Int.ediv_one]; omega
      · rw [if_neg c]; omega
    show wpAny _ _ (match Builtin.Slice.sliceAdjust none none (-1) (items.size : Int) with | (lo, hi) => pure (lo, (-1 : Int), Builtin.Slice.slicePlaces lo hi (-1))) _ _ s
    rw [e1]
    show wpAny _ _ (pure ((items.size : Int) - 1, (-1 : Int), Builtin.Slice.slicePlaces ((items.size : Int) - 1) (-1) (-1))) _ _ s
    rw [e2]
    exact wpAny_pure q
  refine wpAny_bind (ap ?_)
  have no : ¬ ((((items.size : Int) - 1) == 0 && (-1 : Int) == 1 && items.size == items.size) = true) := by
    rw [show ((-1 : Int) == 1) = false from rfl, Bool.and_false, Bool.false_and]
    exact Bool.false_ne_true
  show wpAny _ _ (if (((items.size : Int) - 1) == 0 && (-1 : Int) == 1 && items.size == items.size) = true then _ else _) _ _ s
  rw [if_neg no, pick_back]
  first
    | exact wpAny_bind (m := Builtin.Tuple.tupleExact _) (wpAny_newObj_type (wpAny_pure ⟨_, rfl, wpAny_pure h⟩) hz')
    | exact wpAny_bind (m := Builtin.Tuple.tupleExact _) (wpAny_newObj_type (wpAny_bind (wpAny_pure (wpAny_pure ⟨_, rfl, wpAny_pure h⟩))) hz')
    | exact wpAny_bind (wpAny_bind (m := Builtin.Tuple.tupleExact _) (wpAny_newObj_type (wpAny_pure (wpAny_pure ⟨_, rfl, wpAny_pure h⟩)) hz'))
    | exact wpAny_bind (wpAny_bind (m := Builtin.Tuple.tupleExact _) (wpAny_newObj_type (wpAny_pure ⟨_, rfl, wpAny_pure h⟩) hz'))
end
section
variable {X : Cx} {e : Expr} {pos p1 p2 p3 : Pos}
theorem vals_back : ∀ {xs : List V} {us : List Value}, Vals xs us → Vals xs.reverse us.reverse
  | _, _, .nil => .nil
  | _, _, .cons r t => by
    rw [List.reverse_cons, List.reverse_cons]
    exact (vals_back t).append (.cons r .nil)
def rRev (K : PySem.W.Frag) : V → Hp → VK → Prop := fun x H Q => (∃ a xs, x = .ref a ∧ SqL K H a xs ∧ ∀ p, H p = none → Q (.ref p) (upd H p (.lst xs.reverse))) ∨ ∃ a xs, x = .ref a ∧ SqT K H a xs ∧ ∀ p, H p = none → Q (.ref p) (upd H p (.tup xs.reverse))
theorem pe_rev {te : TE} {k : Nat} (he : PE X e te) : PE X (.Subscript e (.Slice none none (some (.UnaryOp .USub (.Constant (.int 1) k p1) p2)) p3) pos) (tUn (rRev X.K) te) := ⟨fun pins s σ H Q I h => by
  refine Subscript_ (thn (he.run pins s σ H _ I h) fun v s1 ⟨x, H1, I1, r1, q⟩ => ?_)
  have st : PO X (some (.UnaryOp .USub (.Constant (.int 1) k p1) p2)) (tPart (tUn (rU fun i => .int (-i)) (tC (.int 1)))) := po_some (pe_un un_neg pe_int)
  refine wpAny_Slice (thn (po_none.run pins s1 σ H1 (fun o H2 => o = none ∧ H2 = H1) I1 ⟨rfl, rfl⟩) fun vl s2 ⟨_, _, I2, pl, el, e2⟩ => ?_)
  subst el e2
  refine thn (po_none.run pins s2 σ _ (fun o H3 => o = none ∧ H3 = _) I2 ⟨rfl, rfl⟩) fun vu s3 ⟨_, _, I3, pu, eu, e3⟩ => ?_
  subst eu e3
  refine thn (st.run pins s3 σ _ (fun o H4 => o = some (-1) ∧ H4 = _) I3 ⟨1, rfl, -1, rfl, rfl, rfl⟩) fun vs s4 ⟨_, H4, I4, ps, eo, e4⟩ => ?_
  subst eo e4
  have I5 : Inv X pins σ _ { s4 with heap := s4.heap.push { cls := .type "slice", data := .fields #[vl, vu, vs] } } := I4.kept (t' := s4.toks) fun b ob q => Heap.get?_push_of_some _ q
  show wpAny (model X.prog X.w) X.A (subscriptTail e (.Slice none none (some (.UnaryOp .USub (.Constant (.int 1) k p1) p2)) p3) v (.ref s4.heap.objs.size)) (EP X pins σ Q) X.xe { s4 with heap := s4.heap.push { cls := .type "slice", data := .fields #[vl, vu, vs] } }
  rcases q with ⟨a, xs, ex, hx, q⟩ | ⟨a, xs, ex, hx, q⟩
  · subst ex
    cases r1
    obtain ⟨its, r, ht, hz⟩ := I5.list hx
    have hl : its.toArray.size ≤ sizeLine := by rw [List.size_toArray, ← r.length]; exact hz
    refine tail_any (ops := [.ref a, .ref s4.heap.objs.size]) ht.isList.typeIs PySem.slot_list_getitem.lookup (wpAny_getItem_list_slice ht.isList (Heap.IsSliceOf.new _ vl vu vs) pl pu ps (by decide) ?_ hl) (by with_unfolding_all rfl)
    rw [PySem.W.krv_pick]
    refine ⟨.ref _, _, I5.laid (t' := s4.toks) (o := .lst xs.reverse) (fun b ob q => Heap.get?_push_of_some _ q) (Nat.le_refl _) ?_, rfl, q _ (I5.hok.fresh (Nat.le_refl _))⟩
    exact ⟨by rw [List.length_reverse]; exact hz, _, 0, vals_back r, Heap.get?_push_size _ rfl⟩
  · subst ex
    cases r1
    obtain ⟨its, r, ht, hz⟩ := I5.tuple hx
    have hl : its.toArray.size ≤ sizeLine := by rw [List.size_toArray, ← r.length]; exact hz
    refine tail_any (ops := [.ref a, .ref s4.heap.objs.size]) ht.typeIs PyProof.Rows.slot_tuple_getitem.lookup (getItem_tuple_back ht (Heap.IsSliceOf.new _ vl vu vs) pl pu ps ?_ hl) (by with_unfolding_all rfl)
    refine ⟨.ref _, _, I5.laid (t' := s4.toks) (o := .tup xs.reverse) (fun b ob q => Heap.get?_push_of_some _ q) (Nat.le_refl _) ?_, rfl, q _ (I5.hok.fresh (Nat.le_refl _))⟩
    exact ⟨by rw [List.length_reverse]; exact hz, _, vals_back r, IsTup.new _ _⟩⟩
end

/-! ### operators on data -/
section
variable {X : Cx} {K : PySem.W.Frag}
def gAdd : G2 := fun x y μ Q => match x, y with
  | .int i, .int j => Q (.int (i + j)) μ
  | .str a, .str b => a.length + b.length ≤ sizeLine ∧ Q (.str (a ++ b)) μ
  | .tup xs, .tup ys => xs.length + ys.length ≤ sizeLine ∧ Q (.tup (xs ++ ys)) μ
  | .lst xs, .lst ys => xs.length + ys.length ≤ sizeLine ∧ Q (.lst (xs ++ ys)) μ
  | _, _ => False
theorem pd_add {a b : Expr} {ta tb : DE} {pos : Pos} (ha : PD X a ta) (hb : PD X b tb) : PD X (.BinOp a .Add b pos) (dOp gAdd ta tb) := by
  refine pd_op (op_add.or (op_add_str.or (op_catA.or op_cat))) (@fun x y dx dy H μ Q Qd j hx hy g k => ?_) ha hb
  unfold gAdd at g
  split at g
  · cases hx; cases hy
    exact .inl ⟨_, _, rfl, rfl, k.now j (.int _) g⟩
  · cases hx; cases hy
    exact .inr (.inl ⟨_, _, rfl, rfl, g.1, k.now j (.str _) g.2⟩)
  · obtain ⟨g1, g2⟩ := g
    cases hx with | tup e l =>
    cases hy with | tup e' l' =>
    rename_i vs _ ws
    have n1 := l.length
    have n2 := l'.length
    refine .inr (.inr (.inl ⟨_, _, vs, ws, rfl, rfl, Da.sqT e, Da.sqT e', by omega, fun z => ?_, fun _ z => ?_, fun _ _ p n => ?_⟩))
    · subst z
      cases l
      exact k.now j (.tup e' l') g2
    · subst z
      cases l'
      rw [List.append_nil] at g2
      exact k.now j (.tup e l) g2
    · exact k.new j n (da_tup j n (l.append l')) g2
  · obtain ⟨g1, g2⟩ := g
    cases hx with | lst n0 e l =>
    cases hy with | lst n1 e' l' =>
    have n1 := l.length
    have n2 := l'.length
    exact .inr (.inr (.inr ⟨_, _, _, _, rfl, rfl, e, e', by omega, fun p n => k.new j n (da_lst j n (l.append l')) g2⟩))
  · exact g.elim
/-- two ints -/
def gI (C : Int → Int → Prop) (f : Int → Int → D) : G2 := fun x y μ Q => match x, y with
  | .int i, .int j => C i j ∧ Q (f i j) μ
  | _, _ => False
def gI0 (f : Int → Int → D) : G2 := fun x y μ Q => match x, y with
  | .int i, .int j => Q (f i j) μ
  | _, _ => False
theorem lf_I {C : Int → Int → Prop} {f : Int → Int → V} {f' : Int → Int → D} (h : ∀ {μ H} i j, Da K μ H (f i j) (f' i j)) : Lf2 K (rI C f) (gI C f') := @fun x y dx dy H μ Q Qd j hx hy g k => by
  unfold gI at g
  split at g
  · cases hx; cases hy
    exact ⟨_, _, rfl, rfl, g.1, k.now j (h _ _) g.2⟩
  · exact g.elim
theorem lf_I0 {f : Int → Int → V} {f' : Int → Int → D} (h : ∀ {μ H} i j, Da K μ H (f i j) (f' i j)) : Lf2 K (rI0 f) (gI0 f') := @fun x y dx dy H μ Q Qd j hx hy g k => by
  unfold gI0 at g
  split at g
  · cases hx; cases hy
    exact ⟨_, _, rfl, rfl, k.now j (h _ _) g⟩
  · exact g.elim
variable {a b : Expr} {ta tb : DE} {pos : Pos}
def gSub : G2 := gI0 fun i j => .int (i - j)
def gMul : G2 := gI CMul fun i j => .int (i * j)
def gMod : G2 := gI (fun _ j => 0 < j) fun i j => .int (i % j)
def gDiv : G2 := gI CDiv fun i j => .int (i / j)
def gPow : G2 := gI CPow fun i j => .int (i ^ j.toNat)
theorem pd_sub (ha : PD X a ta) (hb : PD X b tb) : PD X (.BinOp a .Sub b pos) (dOp gSub ta tb) := pd_op op_sub (lf_I0 fun _ _ => .int _) ha hb
theorem pd_mul (ha : PD X a ta) (hb : PD X b tb) : PD X (.BinOp a .Mult b pos) (dOp gMul ta tb) := pd_op op_mul (lf_I fun _ _ => .int _) ha hb
theorem pd_mod (ha : PD X a ta) (hb : PD X b tb) : PD X (.BinOp a .Mod b pos) (dOp gMod ta tb) := pd_op op_mod (lf_I fun _ _ => .int _) ha hb
theorem pd_div (ha : PD X a ta) (hb : PD X b tb) : PD X (.BinOp a .FloorDiv b pos) (dOp gDiv ta tb) := pd_op op_fdiv (lf_I fun _ _ => .int _) ha hb
theorem pd_pow (ha : PD X a ta) (hb : PD X b tb) : PD X (.BinOp a .Pow b pos) (dOp gPow ta tb) := pd_op op_pow (lf_I fun _ _ => .int _) ha hb
def gNeg : D → Mu → DQ → Prop := fun x μ Q => match x with
  | .int i => Q (.int (-i)) μ
  | _ => False
theorem pd_neg (ha : PD X a ta) : PD X (.UnaryOp .USub a pos) (dUn gNeg ta) := by
  refine pd_un un_neg (@fun x dx H μ Q Qd j hx g k => ?_) ha
  unfold gNeg at g
  split at g
  · cases hx
    exact ⟨_, rfl, k.now j (.int _) g⟩
  · exact g.elim

/-! comparisons of data -/
def rD (K : PySem.W.Frag) (C : PyData → PyData → Prop) (f : PyData → PyData → Bool) : R2 := fun x y H Q => ∃ d e, Dp K H x d ∧ Dp K H y e ∧ C d e ∧ Q (.bl (f d e)) H
def gD (C : PyData → PyData → Prop) (f : PyData → PyData → Bool) : G2 := fun x y μ Q => pur (vw μ x) = true ∧ pur (vw μ y) = true ∧ C (py (vw μ x)) (py (vw μ y)) ∧ Q (.bl (f (py (vw μ x)) (py (vw μ y)))) μ
theorem lf_D {C : PyData → PyData → Prop} {f : PyData → PyData → Bool} : Lf2 K (rD K C f) (gD C f) := @fun x y dx dy H μ Q Qd j hx hy g k =>
  ⟨_, _, hx.vdp j g.1, hy.vdp j g.2.1, g.2.2.1, k.now j (.bl _) g.2.2.2⟩
def CEq (d e : PyData) : Prop := d.plain = true ∧ e.plain = true ∧ e.depth ≤ 64
def CLt (d e : PyData) : Prop := PySem.W.alike d e = true ∧ d ≠ .none ∧ e.depth ≤ 64
theorem op_eqq (hu : X.A.units + 64 < cLine) : OpR X (compareOp .Eq) (rD X.K CEq PyData.eqv) := by
  intro pins s σ H x y v u Q I rx ry h
  obtain ⟨d, e, hd, he, ⟨c1, c2, c3⟩, q⟩ := h
  obtain ⟨as, r1⟩ := Dp.reads I d x v hd rx
  obtain ⟨bs, r2⟩ := Dp.reads I e y u he ry
  exact PySem.SeqAt.eq_plain r1 r2 c1 c2 (by omega) ⟨.bl _, H, I, rfl, q⟩
theorem op_neq (hu : X.A.units + 64 < cLine) : OpR X (compareOp .NotEq) (rD X.K CEq fun d e => !PyData.eqv d e) := by
  intro pins s σ H x y v u Q I rx ry h
  obtain ⟨d, e, hd, he, ⟨c1, c2, c3⟩, q⟩ := h
  obtain ⟨as, r1⟩ := Dp.reads I d x v hd rx
  obtain ⟨bs, r2⟩ := Dp.reads I e y u he ry
  exact PySem.SeqAt.ne_plain r1 r2 c1 c2 (by omega) ⟨.bl _, H, I, rfl, q⟩
theorem op_ltq (hu : X.A.units + 64 < cLine) : OpR X (compareOp .Lt) (rD X.K CLt PySem.W.dataLt) := by
  intro pins s σ H x y v u Q I rx ry h
  obtain ⟨d, e, hd, he, ⟨c1, c2, c3⟩, q⟩ := h
  obtain ⟨as, r1⟩ := Dp.reads I d x v hd rx
  obtain ⟨bs, r2⟩ := Dp.reads I e y u he ry
  exact PySem.W.lt_data r1 r2 c1 c2 (by omega) ⟨.bl _, H, I, rfl, q⟩
theorem op_gtq (hu : X.A.units + 64 < cLine) : OpR X (compareOp .Gt) (rD X.K CLt fun d e => PySem.W.dataLt e d) := by
  intro pins s σ H x y v u Q I rx ry h
  obtain ⟨d, e, hd, he, ⟨c1, c2, c3⟩, q⟩ := h
  obtain ⟨as, r1⟩ := Dp.reads I d x v hd rx
  obtain ⟨bs, r2⟩ := Dp.reads I e y u he ry
  exact PySem.W.gt_data r1 r2 c1 c2 (by omega) ⟨.bl _, H, I, rfl, q⟩
theorem op_leq (hu : X.A.units + 64 < cLine) : OpR X (compareOp .LtE) (rD X.K CLt fun d e => !PySem.W.dataLt e d) := by
  intro pins s σ H x y v u Q I rx ry h
  obtain ⟨d, e, hd, he, ⟨c1, c2, c3⟩, q⟩ := h
  obtain ⟨as, r1⟩ := Dp.reads I d x v hd rx
  obtain ⟨bs, r2⟩ := Dp.reads I e y u he ry
  exact PySem.W.le_data r1 r2 c1 c2 (by omega) ⟨.bl _, H, I, rfl, q⟩
theorem op_geq (hu : X.A.units + 64 < cLine) : OpR X (compareOp .GtE) (rD X.K CLt fun d e => !PySem.W.dataLt d e) := by
  intro pins s σ H x y v u Q I rx ry h
  obtain ⟨d, e, hd, he, ⟨c1, c2, c3⟩, q⟩ := h
  obtain ⟨as, r1⟩ := Dp.reads I d x v hd rx
  obtain ⟨bs, r2⟩ := Dp.reads I e y u he ry
  exact PySem.W.ge_data r1 r2 c1 c2 (by omega) ⟨.bl _, H, I, rfl, q⟩
def gEq : G2 := gD CEq PyData.eqv
def gNe : G2 := gD CEq fun d e => !PyData.eqv d e
def gLt : G2 := gD CLt PySem.W.dataLt
def gGt : G2 := gD CLt fun d e => PySem.W.dataLt e d
def gLe : G2 := gD CLt fun d e => !PySem.W.dataLt e d
def gGe : G2 := gD CLt fun d e => !PySem.W.dataLt d e
section
variable {k : Nat}
theorem pd_eq (hr : Room k X.A) (ha : PD X a ta) (hb : PD X b tb) : PD X (.Compare a [.Eq] [b] pos) (dOp gEq ta tb) := pd_cmp (op_eqq hr.units) lf_D ha hb (nomark _)
theorem pd_ne (hr : Room k X.A) (ha : PD X a ta) (hb : PD X b tb) : PD X (.Compare a [.NotEq] [b] pos) (dOp gNe ta tb) := pd_cmp (op_neq hr.units) lf_D ha hb (nomark _)
theorem pd_lt (hr : Room k X.A) (ha : PD X a ta) (hb : PD X b tb) : PD X (.Compare a [.Lt] [b] pos) (dOp gLt ta tb) := pd_cmp (op_ltq hr.units) lf_D ha hb (nomark _)
theorem pd_gt (hr : Room k X.A) (ha : PD X a ta) (hb : PD X b tb) : PD X (.Compare a [.Gt] [b] pos) (dOp gGt ta tb) := pd_cmp (op_gtq hr.units) lf_D ha hb (nomark _)
theorem pd_le (hr : Room k X.A) (ha : PD X a ta) (hb : PD X b tb) : PD X (.Compare a [.LtE] [b] pos) (dOp gLe ta tb) := pd_cmp (op_leq hr.units) lf_D ha hb (nomark _)
theorem pd_ge (hr : Room k X.A) (ha : PD X a ta) (hb : PD X b tb) : PD X (.Compare a [.GtE] [b] pos) (dOp gGe ta tb) := pd_cmp (op_geq hr.units) lf_D ha hb (nomark _)
theorem pt_eq (hr : Room k X.A) (ha : PD X a ta) (hb : PD X b tb) : PDT X (.Compare a [.Eq] [b] pos) (dB (dOp gEq ta tb)) := pt_c (op_eqq hr.units) lf_D ha hb (nomark _)
theorem pt_ne (hr : Room k X.A) (ha : PD X a ta) (hb : PD X b tb) : PDT X (.Compare a [.NotEq] [b] pos) (dB (dOp gNe ta tb)) := pt_c (op_neq hr.units) lf_D ha hb (nomark _)
theorem pt_lt (hr : Room k X.A) (ha : PD X a ta) (hb : PD X b tb) : PDT X (.Compare a [.Lt] [b] pos) (dB (dOp gLt ta tb)) := pt_c (op_ltq hr.units) lf_D ha hb (nomark _)
theorem pt_gt (hr : Room k X.A) (ha : PD X a ta) (hb : PD X b tb) : PDT X (.Compare a [.Gt] [b] pos) (dB (dOp gGt ta tb)) := pt_c (op_gtq hr.units) lf_D ha hb (nomark _)
theorem pt_le (hr : Room k X.A) (ha : PD X a ta) (hb : PD X b tb) : PDT X (.Compare a [.LtE] [b] pos) (dB (dOp gLe ta tb)) := pt_c (op_leq hr.units) lf_D ha hb (nomark _)
theorem pt_ge (hr : Room k X.A) (ha : PD X a ta) (hb : PD X b tb) : PDT X (.Compare a [.GtE] [b] pos) (dB (dOp gGe ta tb)) := pt_c (op_geq hr.units) lf_D ha hb (nomark _)
end
/-! is True, is None -/
def gIs : G2 := fun x y μ Q => match x, y with
  | .bl a, .bl b => Q (.bl (decide (a = b))) μ
  | _, _ => False
theorem pd_isB (ha : PD X a ta) (hb : PD X b tb) : PD X (.Compare a [.Is] [b] pos) (dOp gIs ta tb) := by
  refine pd_cmp op_isBl (@fun x y dx dy H μ Q Qd j hx hy g k => ?_) ha hb (nomark _)
  unfold gIs at g
  split at g
  · cases hx; cases hy
    exact ⟨_, _, rfl, rfl, k.now j (.bl _) g⟩
  · exact g.elim
def isNon : D → Bool
  | .non => true
  | _ => false
theorem isNon_eq {μ : Mu} {H : Hp} {v : V} {d : D} (h : Da K μ H v d) : decide (v = .non) = isNon d := by
  cases h <;> simp [isNon]
def gIsN : G2 := fun x y μ Q => match y with
  | .non => Q (.bl (isNon x)) μ
  | _ => False
def gNotN : G2 := fun x y μ Q => match y with
  | .non => Q (.bl (!isNon x)) μ
  | _ => False
theorem lf_isN : Lf2 K (fun x y H Q => y = .non ∧ Q (.bl (decide (x = .non))) H) gIsN := @fun x y dx dy H μ Q Qd j hx hy g k => by
  unfold gIsN at g
  split at g
  · cases hy
    exact ⟨rfl, by rw [isNon_eq hx]; exact k.now j (.bl _) g⟩
  · exact g.elim
theorem lf_notN : Lf2 K (fun x y H Q => y = .non ∧ Q (.bl (!decide (x = .non))) H) gNotN := @fun x y dx dy H μ Q Qd j hx hy g k => by
  unfold gNotN at g
  split at g
  · cases hy
    exact ⟨rfl, by rw [isNon_eq hx]; exact k.now j (.bl _) g⟩
  · exact g.elim
theorem pd_isN (ha : PD X a ta) (hb : PD X b tb) : PD X (.Compare a [.Is] [b] pos) (dOp gIsN ta tb) := pd_cmp op_isN lf_isN ha hb (nomark _)
theorem pd_notN (ha : PD X a ta) (hb : PD X b tb) : PD X (.Compare a [.IsNot] [b] pos) (dOp gNotN ta tb) := pd_cmp op_notN lf_notN ha hb (nomark _)
theorem pt_isN (ha : PD X a ta) (hb : PD X b tb) : PDT X (.Compare a [.Is] [b] pos) (dB (dOp gIsN ta tb)) := pt_c op_isN lf_isN ha hb (nomark _)
theorem pt_notN (ha : PD X a ta) (hb : PD X b tb) : PDT X (.Compare a [.IsNot] [b] pos) (dB (dOp gNotN ta tb)) := pt_c op_notN lf_notN ha hb (nomark _)

/-! subscripts -/
theorem DaL.atI {μ : Mu} {H : Hp} {vs : List V} {ds : List D} {i : Int} {d : D} (l : DaL K μ H vs ds) (h : L2.atI ds i = some d) : ∃ v, L2.atI vs i = some v ∧ Da K μ H v d := by
  unfold L2.atI at h ⊢
  rw [l.length]
  cases q : ixN ds.length i with
  | none => rw [q] at h; cases h
  | some n =>
    rw [q] at h
    exact l.get (i := n) h
def gIx : G2 := fun x y μ Q => match vw μ x, y with
  | .lst xs, .int i => match L2.atI xs i with
    | some d => Q d μ
    | none => False
  | .sq xs, .int i => match L2.atI xs i with
    | some d => Q d μ
    | none => False
  | .tup xs, .int i => match L2.atI xs i with
    | some d => Q d μ
    | none => False
  | .str z, .int i => z.length ≤ sizeLine ∧ match L2.atI z.cps.toList i with
    | some c => Q (.str ⟨#[c]⟩) μ
    | none => False
  | _, _ => False
/-- a list as it stands now, kept apart or among the things that change -/
theorem Da.nowL {μ : Mu} {H : Hp} {v : V} {d : D} {xs : List D} (j : J K μ H) (h : Da K μ H v d) (e : vw μ d = .lst xs) : ∃ a vs, v = .ref a ∧ H a = some (.lst vs) ∧ DaL K μ H vs xs := by
  cases h with
  | lst n e' l =>
    simp only [vw] at e
    cases e
    exact ⟨_, _, rfl, e', l⟩
  | ref a =>
    simp only [vw] at e
    cases q : μ a with
    | none => rw [q] at e; cases e
    | some o =>
      rw [q] at e
      cases o with
      | lst ys =>
        simp only at e
        cases e
        obtain ⟨vs, e1, l⟩ := j a _ q
        exact ⟨a, vs, rfl, e1, l⟩
      | dK kvs => cases e
      | ins C fs => cases e
  | _ => simp [vw] at e
theorem Da.nowT {μ : Mu} {H : Hp} {v : V} {d : D} {xs : List D} (j : J K μ H) (h : Da K μ H v d) (e : vw μ d = .tup xs) : ∃ a vs, v = .ref a ∧ SqT K H a vs ∧ DaL K μ H vs xs := by
  cases h with
  | tup e' l =>
    simp only [vw] at e
    cases e
    exact ⟨_, _, rfl, Da.sqT e', l⟩
  | ref a =>
    simp only [vw] at e
    split at e <;> cases e
  | _ => simp [vw] at e
theorem Da.nowS {μ : Mu} {H : Hp} {v : V} {d : D} {xs : List D} (j : J K μ H) (h : Da K μ H v d) (e : vw μ d = .sq xs) : ∃ a vs, v = .ref a ∧ SqL K H a vs ∧ DaL K μ H vs xs := by
  cases h with
  | sq e' l =>
    simp only [vw] at e
    cases e
    exact ⟨_, _, rfl, Da.sqL e', l⟩
  | ref a =>
    simp only [vw] at e
    split at e <;> cases e
  | _ => simp [vw] at e
theorem Da.nowStr {μ : Mu} {H : Hp} {v : V} {d : D} {z : Str} (h : Da K μ H v d) (e : vw μ d = .str z) : v = .str z := by
  cases h with
  | str x => simp only [vw] at e; cases e; rfl
  | ref a =>
    simp only [vw] at e
    split at e <;> cases e
  | _ => simp [vw] at e
theorem lf_ix : Lf2 K (rIx K) gIx := @fun x y dx dy H μ Q Qd j hx hy g k => by
  unfold gIx at g
  split at g
  · rename_i xs i e
    obtain ⟨a, vs, rfl, ea, l⟩ := hx.nowL j e
    cases hy
    split at g
    · rename_i d q
      obtain ⟨v, e1, h1⟩ := l.atI q
      exact .inl ⟨a, vs, i, v, rfl, rfl, SqL.of ea, e1, k.now j h1 g⟩
    · exact g.elim
  · rename_i xs i e
    obtain ⟨a, vs, rfl, ea, l⟩ := hx.nowS j e
    cases hy
    split at g
    · rename_i d q
      obtain ⟨v, e1, h1⟩ := l.atI q
      exact .inl ⟨a, vs, i, v, rfl, rfl, ea, e1, k.now j h1 g⟩
    · exact g.elim
  · rename_i xs i e
    obtain ⟨a, vs, rfl, ea, l⟩ := hx.nowT j e
    cases hy
    split at g
    · rename_i d q
      obtain ⟨v, e1, h1⟩ := l.atI q
      exact .inr (.inl ⟨a, vs, i, v, rfl, rfl, ea, e1, k.now j h1 g⟩)
    · exact g.elim
  · rename_i z i e
    have ez := hx.nowStr e
    subst ez
    cases hy
    obtain ⟨g0, g⟩ := g
    split at g
    · rename_i c q
      exact .inr (.inr ⟨z, i, c, rfl, rfl, g0, q, k.now j (.str _) g⟩)
    · exact g.elim
  · exact g.elim
theorem pd_at (ha : PD X a ta) (hb : PD X b tb) (hs : PlainIx b := by exact fun _ _ => rfl) : PD X (.Subscript a b pos) (dOp gIx ta tb) := pd_ix ix_seq lf_ix ha hb hs
end
end Dl

namespace Dl
open PySem PySem.Spec PyProof.Rows L2
/-! ### slices -/
abbrev DO := Ro → Mu → (Option Int → Mu → Prop) → Prop
structure PDO (X : Cx) (e : Option Expr) (t : DO) : Prop where
  ex : ∃ te, PO X e te ∧ ∀ {σ : L2.St} {H : Hp} {ρ : Ro} {μ : Mu} {Q : Option Int → Hp → Prop} {Qd : Option Int → Mu → Prop}, Okd X.K μ H σ ρ → t ρ μ Qd →
    (∀ o H' μ', Gr μ H μ' H' → J X.K μ' H' → Qd o μ' → Q o H') → te σ H Q
def dNo : DO := fun _ μ Q => Q none μ
def dSome (t : DE) : DO := fun ρ μ Q => t ρ μ fun x μ1 => match x with
  | .int i => Q (some i) μ1
  | _ => False
def cutD (xs : List D) (lo hi : Option Int) : List D := (xs.drop (HT.sIx xs.length 0 lo)).take (HT.sIx xs.length xs.length hi - HT.sIx xs.length 0 lo)
section
variable {X : Cx} {K : PySem.W.Frag} {a b e o : Expr} {es : List Expr} {ta tb te : DE} {tA : DA} {pos p p1 p2 p3 : Pos} {lo hi : Option Expr} {tl th : DO}
theorem pdo_none : PDO X none dNo := ⟨_, po_none, @fun σ H ρ μ Q Qd o t k => k _ _ _ Gr.refl o.j t⟩
theorem pdo_some (h : PD X e te) : PDO X (some e) (dSome te) := by
  obtain ⟨ea, pa, fa⟩ := h.ex
  refine ⟨_, po_some pa, @fun σ H ρ μ Q Qd o t k => ?_⟩
  refine fa o t fun x dx H1 μ1 g1 j1 h1 t1 => ?_
  match dx, h1, t1 with
  | .int i, .int _, t1 => exact ⟨i, rfl, k _ _ _ g1 j1 t1⟩
theorem DaL.cut {μ : Mu} {H : Hp} {vs : List V} {ds : List D} (l : DaL K μ H vs ds) (lo hi : Option Int) : DaL K μ H (cutV vs lo hi) (cutD ds lo hi) := by
  unfold cutV cutD
  rw [l.length]
  exact (l.drop _).take _
theorem cutD_whole {xs : List D} {lo hi : Option Int} (h : HT.sIx xs.length 0 lo = 0 ∧ HT.sIx xs.length xs.length hi = xs.length) : cutD xs lo hi = xs := by
  unfold cutD
  rw [h.1, h.2]
  simp
def gSl : D → Option Int → Option Int → Mu → DQ → Prop := fun x l u μ Q => match vw μ x with
  | .lst xs => Q (.lst (cutD xs l u)) μ
  | .sq xs => Q (.lst (cutD xs l u)) μ
  | .tup xs => Q (.tup (cutD xs l u)) μ
  | .str z => z.length ≤ sizeLine ∧ Q (.str (cutS z l u)) μ
  | _ => False
def dSl (te : DE) (tl th : DO) : DE := fun ρ μ Q => te ρ μ fun x μ1 => tl ρ μ1 fun l μ2 => th ρ μ2 fun u μ3 => gSl x l u μ3 Q
theorem pd_slice (he : PD X e te) (hl : PDO X lo tl) (hh : PDO X hi th) : PD X (.Subscript e (.Slice lo hi none p2) pos) (dSl te tl th) := by
  obtain ⟨ee, pe, fe⟩ := he.ex
  obtain ⟨el, pl, fl⟩ := hl.ex
  obtain ⟨eh, ph, fh⟩ := hh.ex
  refine ⟨_, pe_slice (sl_list.or (sl_tupA.or sl_str)) pe pl ph, @fun σ H ρ μ Q Qd o t k => ?_⟩
  refine fe o t fun x dx H1 μ1 g1 j1 h1 t1 => ?_
  have o1 := o.grow g1 j1
  refine fl o1 t1 fun l H2 μ2 g2 j2 t2 => ?_
  have o2 := o1.grow g2 j2
  refine fh o2 t2 fun u H3 μ3 g3 j3 t3 => ?_
  have hx : Da X.K μ3 H3 x dx := (h1.grow g2).grow g3
  have k3 := ((k.after g1).after g2).after g3
  unfold gSl at t3
  split at t3
  · rename_i xs q
    obtain ⟨a, vs, rfl, ea, l⟩ := hx.nowL j3 q
    exact .inl ⟨a, vs, rfl, SqL.of ea, fun p n => k3.new j3 n (da_lst j3 n (l.cut _ _)) t3⟩
  · rename_i xs q
    obtain ⟨a, vs, rfl, ea, l⟩ := hx.nowS j3 q
    exact .inl ⟨a, vs, rfl, ea, fun p n => k3.new j3 n (da_lst j3 n (l.cut _ _)) t3⟩
  · rename_i xs q
    cases hx with
    | tup e' l =>
      simp only [vw] at q
      cases q
      refine .inr (.inl ⟨_, _, rfl, Da.sqT e', fun z => ?_, fun _ p n => k3.new j3 n (da_tup j3 n (l.cut _ _)) t3⟩)
      rw [l.length] at z
      rw [cutD_whole z] at t3
      exact k3.now j3 (.tup e' l) t3
    | ref a =>
      simp only [vw] at q
      split at q <;> cases q
    | _ => simp [vw] at q
  · rename_i z q
    have ez := hx.nowStr q
    subst ez
    exact .inr (.inr ⟨z, rfl, t3.1, k3.now j3 (.str _) t3.2⟩)
  · exact t3.elim
/-- xs[::-1] -/
def gRev : D → Mu → DQ → Prop := fun x μ Q => match vw μ x with
  | .lst xs => Q (.lst xs.reverse) μ
  | .sq xs => Q (.lst xs.reverse) μ
  | .tup xs => Q (.tup xs.reverse) μ
  | _ => False
/-- the new list will be changed -/
def gRevM : D → Mu → DQ → Prop := fun x μ Q => match vw μ x with
  | .lst xs => ∀ p, μ p = none → Q (.ref p) (mup μ p (.lst xs.reverse))
  | _ => False
theorem pd_rev {k : Nat} (he : PD X e te) : PD X (.Subscript e (.Slice none none (some (.UnaryOp .USub (.Constant (.int 1) k p1) p2)) p3) pos) (dUn gRev te) := by
  obtain ⟨ee, pe, fe⟩ := he.ex
  refine ⟨_, pe_rev pe, @fun σ H ρ μ Q Qd o t k => fe o t fun x dx H1 μ1 g1 j1 h1 t1 => ?_⟩
  have k1 := k.after g1
  unfold gRev at t1
  split at t1
  · rename_i xs q
    obtain ⟨a, vs, rfl, ea, l⟩ := h1.nowL j1 q
    exact .inl ⟨a, vs, rfl, SqL.of ea, fun p n => k1.new j1 n (da_lst j1 n l.rev) t1⟩
  · rename_i xs q
    obtain ⟨a, vs, rfl, ea, l⟩ := h1.nowS j1 q
    exact .inl ⟨a, vs, rfl, ea, fun p n => k1.new j1 n (da_lst j1 n l.rev) t1⟩
  · rename_i xs q
    obtain ⟨a, vs, rfl, ea, l⟩ := h1.nowT j1 q
    exact .inr ⟨a, vs, rfl, ea, fun p n => k1.new j1 n (da_tup j1 n l.rev) t1⟩
  · exact t1.elim
theorem pd_revM {k : Nat} (he : PD X e te) : PD X (.Subscript e (.Slice none none (some (.UnaryOp .USub (.Constant (.int 1) k p1) p2)) p3) pos) (dUn gRevM te) := by
  obtain ⟨ee, pe, fe⟩ := he.ex
  refine ⟨_, pe_rev pe, @fun σ H ρ μ Q Qd o t k => fe o t fun x dx H1 μ1 g1 j1 h1 t1 => ?_⟩
  have k1 := k.after g1
  unfold gRevM at t1
  split at t1
  · rename_i xs q
    obtain ⟨a, vs, rfl, ea, l⟩ := h1.nowL j1 q
    exact .inl ⟨a, vs, rfl, SqL.of ea, fun p n => k1 _ _ _ _ (Gr.born n) (j1.born (u := .lst xs.reverse) n ⟨_, upd_same, l.rev.grow (Gr.born n)⟩) (.ref p) (t1 p (j1.free n))⟩
  · exact t1.elim

/-! ### built-ins on data -/
theorem DaL.one {μ : Mu} {H : Hp} {vs : List V} {d : D} (l : DaL K μ H vs [d]) : ∃ v, vs = [v] ∧ Da K μ H v d := by
  cases l with | cons h t => cases t; exact ⟨_, rfl, h⟩
theorem DaL.two {μ : Mu} {H : Hp} {vs : List V} {d d' : D} (l : DaL K μ H vs [d, d']) : ∃ v v', vs = [v, v'] ∧ Da K μ H v d ∧ Da K μ H v' d' := by
  cases l with | cons h t => cases t with | cons h' t' => cases t'; exact ⟨_, _, rfl, h, h'⟩
def gLen : List D → Mu → DQ → Prop := fun ds μ Q => match ds with
  | [d] => match vw μ d with
    | .lst xs => Q (.int xs.length) μ
    | .sq xs => Q (.int xs.length) μ
    | .tup xs => Q (.int xs.length) μ
    | .str z => z.length ≤ sizeLine ∧ Q (.int z.length) μ
    | _ => False
  | _ => False
theorem lf_len : LfL K (fun xs H Q => ∃ x n, xs = [x] ∧ LenV K x H n ∧ Q (.int n) H) gLen := @fun xs ds H μ Q Qd j h g k => by
  unfold gLen at g
  split at g
  · rename_i d
    obtain ⟨v, rfl, hv⟩ := h.one
    split at g
    · rename_i xs q
      obtain ⟨a, vs, rfl, ea, l⟩ := hv.nowL j q
      exact ⟨_, xs.length, rfl, .inl ⟨vs, SqL.of ea, l.length.symm⟩, k.now j (.int _) g⟩
    · rename_i xs q
      obtain ⟨a, vs, rfl, ea, l⟩ := hv.nowS j q
      exact ⟨_, xs.length, rfl, .inl ⟨vs, ea, l.length.symm⟩, k.now j (.int _) g⟩
    · rename_i xs q
      obtain ⟨a, vs, rfl, ea, l⟩ := hv.nowT j q
      exact ⟨_, xs.length, rfl, .inr ⟨vs, ea, l.length.symm⟩, k.now j (.int _) g⟩
    · rename_i z q
      have ez := hv.nowStr q
      subst ez
      exact ⟨_, z.length, rfl, ⟨g.1, rfl⟩, k.now j (.int _) g.2⟩
    · exact g.elim
  · exact g.elim
theorem pd_len (hm : X.mg "len" = none) (ha : PD X a ta) (hg : Gl X "len" := by rfl) (hs : starEach [a] X.env = (false, eval a X.env) :: starEach [] X.env := by rfl) : PD X (.Call (.Name "len" p) [a] [] pos) (dCB gLen (dCons ta dNil)) :=
  pd_b call_len lf_len hm PySem.boot_len (pda_cons ha pda_nil hs) hg (by decide) (by decide) hs rfl
/-- a row of items as it stands -/
theorem Da.row {μ : Mu} {H : Hp} {v : V} {d : D} (j : J K μ H) (h : Da K μ H v d) : ∀ {xs : List D}, vw μ d = .lst xs ∨ vw μ d = .sq xs ∨ vw μ d = .tup xs → ∃ a vs, v = .ref a ∧ (SqL K H a vs ∨ SqT K H a vs) ∧ DaL K μ H vs xs := by
  rintro xs (q | q | q)
  · obtain ⟨a, vs, e, ea, l⟩ := h.nowL j q; exact ⟨a, vs, e, .inl (SqL.of ea), l⟩
  · obtain ⟨a, vs, e, ea, l⟩ := h.nowS j q; exact ⟨a, vs, e, .inl ea, l⟩
  · obtain ⟨a, vs, e, ea, l⟩ := h.nowT j q; exact ⟨a, vs, e, .inr ea, l⟩
def rowOf (μ : Mu) (d : D) : Option (List D) := match vw μ d with
  | .lst xs => some xs
  | .sq xs => some xs
  | .tup xs => some xs
  | _ => none
theorem row_of {μ : Mu} {d : D} {xs : List D} (h : rowOf μ d = some xs) : vw μ d = .lst xs ∨ vw μ d = .sq xs ∨ vw μ d = .tup xs := by
  unfold rowOf at h
  split at h <;> cases h
  · rename_i q; exact .inl q
  · rename_i q; exact .inr (.inl q)
  · rename_i q; exact .inr (.inr q)
def gList : List D → Mu → DQ → Prop := fun ds μ Q => match ds with
  | [d] => match rowOf μ d with
    | some xs => Q (.lst xs) μ
    | none => False
  | _ => False
theorem pd_list (hm : X.mg "list" = none) (hv : bootBuiltins "list" = some (.type "list")) (ha : PD X a ta) (hg : Gl X "list" := by rfl) (hs : starEach [a] X.env = (false, eval a X.env) :: starEach [] X.env := by rfl) : PD X (.Call (.Name "list" p) [a] [] pos) (dCB gList (dCons ta dNil)) := by
  refine pd_ty call_list_of (@fun xs ds H μ Q Qd j h g k => ?_) hm hv (pda_cons ha pda_nil hs) hg (by decide) (by decide) hs rfl
  unfold gList at g
  split at g
  · obtain ⟨v, rfl, hv⟩ := h.one
    split at g
    · rename_i xs q
      obtain ⟨a, vs, rfl, ea, l⟩ := hv.row j (row_of q)
      exact ⟨a, vs, rfl, ea, fun p n => k.new j n (da_lst j n l) g⟩
    · exact g.elim
  · exact g.elim
def gMax2 : List D → Mu → DQ → Prop := fun ds μ Q => match ds with
  | [.int i, .int j] => Q (.int (if j > i then j else i)) μ
  | _ => False
theorem pd_max2 (hc : X.calm = true) (hm : X.mg "max" = none) (hv : bootBuiltins "max" = some (.builtin "max")) (ha : PDA X (e :: es) tA) (hg : Gl X "max" := by rfl) (he : starEach (e :: es) X.env = (false, eval e X.env) :: starEach es X.env := by rfl)
    (hpl : (backTo pos (starEach es X.env)).any (·.1) = false := by rfl) : PD X (.Call (.Name "max" p) (e :: es) [] pos) (dCB gMax2 tA) := by
  refine pd_b (call_max2 hc) (@fun xs ds H μ Q Qd j h g k => ?_) hm hv ha hg (by decide) (by decide) he hpl
  unfold gMax2 at g
  split at g
  · obtain ⟨v, v', rfl, h1, h2⟩ := h.two
    cases h1; cases h2
    exact ⟨_, _, rfl, k.now j (.int _) g⟩
  · exact g.elim
/-- repr of data, where no repr is under way -/
theorem call_reprD {k : Nat} (hr : Room k X.A) (hgu : X.A.guards = some []) : CallR X (.builtin "repr") (fun xs H Q => ∃ x d, xs = [x] ∧ Dp X.K H x d ∧ d.plain = true ∧ d.showable = true ∧ d.hasDict = false ∧ d.depth ≤ 64 ∧ d.shown.length ≤ sizeLine ∧ (∃ a, x = .ref a) ∧ Q (.str d.shown) H) := by
  intro pins s σ H xs us Q I r h
  obtain ⟨x, d, rfl, hd, hp, hs, hn, hz, hl, ⟨a, rfl⟩, q⟩ := h
  cases r with | cons rx rr =>
  cases rr
  cases rx
  obtain ⟨as, rd⟩ := Dp.reads I d _ _ hd rfl
  have hu := hr.un
  refine repr_of_reads' (h₀ := s.heap) rd hs (PyData.noDict_hsm hn) hgu (by omega) (fun _ _ e => e) (fun h' u tk kk => ?_) hl
  exact ⟨.str d.shown, H, I.kept kk, ⟨u, rfl⟩, q⟩
end
end Dl

namespace Dl
open PySem PySem.Spec PyProof.Rows L2
section
variable {X : Cx} {K : PySem.W.Frag} {a b e o : Expr} {es : List Expr} {ta tb te to : DE} {tA : DA} {pos p apos : Pos}
/-! ### repr -/
mutual
theorem py_noDict : ∀ d : D, (py d).hasDict = false
  | .non => by simp only [py, PyData.hasDict]
  | .bl b => by simp only [py, PyData.hasDict]
  | .int i => by simp only [py, PyData.hasDict]
  | .str x => by simp only [py, PyData.hasDict]
  | .ty _ => by simp only [py, PyData.hasDict]
  | .ref _ => by simp only [py, PyData.hasDict]
  | .lst xs => by simp only [py, PyData.hasDict]; exact pyL_noDict xs
  | .sq xs => by simp only [py, PyData.hasDict]; exact pyL_noDict xs
  | .tup xs => by simp only [py, PyData.hasDict]; exact pyL_noDict xs
  | .obj _ _ => by simp only [py, PyData.hasDict]
theorem pyL_noDict : ∀ ds : List D, PyData.hasDictAll (pyL ds) = false
  | [] => by simp only [pyL, PyData.hasDictAll]
  | x :: xs => by simp only [pyL, PyData.hasDictAll, py_noDict x, pyL_noDict xs, Bool.or_self]
end
/-- what repr asks of data, and its text -/
def Shows (d : D) : Prop := pur d = true ∧ (py d).showable = true ∧ (py d).depth ≤ 64 ∧ (py d).shown.length ≤ sizeLine
def gRepr : List D → Mu → DQ → Prop := fun ds μ Q => match ds with
  | [d] => (rowOf μ d).isSome = true ∧ Shows (vw μ d) ∧ Q (.str (py (vw μ d)).shown) μ
  | _ => False
theorem pd_repr {k : Nat} (hr : Room k X.A) (hgu : X.A.guards = some []) (hm : X.mg "repr" = none) (hv : bootBuiltins "repr" = some (.builtin "repr")) (ha : PD X a ta) (hg : Gl X "repr" := by rfl) (hs : starEach [a] X.env = (false, eval a X.env) :: starEach [] X.env := by rfl) :
    PD X (.Call (.Name "repr" p) [a] [] pos) (dCB gRepr (dCons ta dNil)) := by
  refine pd_b (call_reprD hr hgu) (@fun xs ds H μ Q Qd j h g k => ?_) hm hv (pda_cons ha pda_nil hs) hg (by decide) (by decide) hs rfl
  unfold gRepr at g
  split at g
  · obtain ⟨v, rfl, hv⟩ := h.one
    obtain ⟨g1, ⟨g2, g3, g4, g5⟩, g6⟩ := g
    obtain ⟨xs, hx⟩ := Option.isSome_iff_exists.mp g1
    obtain ⟨a, vs, e, _, _⟩ := hv.row j (row_of hx)
    exact ⟨v, _, rfl, hv.vdp j g2, py_plain _, g3, py_noDict _, g4, g5, ⟨a, e⟩, k.now j (.str _) g6⟩
  · exact g.elim

/-! ### methods of a list that changes -/
def dM0 (g : D → Mu → DQ → Prop) (to : DE) : DE := fun ρ μ Q => to ρ μ fun x μ1 => g x μ1 Q
def dM (g : D → List D → Mu → DQ → Prop) (to : DE) (t : DA) : DE := fun ρ μ Q => to ρ μ fun x μ1 => (∃ a xs, x = .ref a ∧ μ1 a = some (.lst xs)) ∧ t ρ μ1 fun ds μ2 => g x ds μ2 Q
def gPop : D → Mu → DQ → Prop := fun x μ Q => match x with
  | .ref a => match μ a with
    | some (.lst xs) => match xs[xs.length - 1]? with
      | some d => Q d (mup μ a (.lst xs.dropLast))
      | none => False
    | _ => False
  | _ => False
def gAppend : D → List D → Mu → DQ → Prop := fun x ds μ Q => match x, ds with
  | .ref a, [d] => match μ a with
    | some (.lst xs) => xs.length < sizeLine ∧ Q .non (mup μ a (.lst (xs ++ [d])))
    | _ => False
  | _, _ => False
theorem DaL.dropLast {μ : Mu} {H : Hp} {vs : List V} {ds : List D} (l : DaL K μ H vs ds) : DaL K μ H vs.dropLast ds.dropLast := by
  rw [List.dropLast_eq_take, List.dropLast_eq_take, l.length]
  exact l.take _
theorem pd_pop (ho : PD X o to) (hbase : attributeBase o "pop" X.env (eval o X.env) = eval o X.env := by rfl) (hline : (apos.endLine == pos.line) = true := by rfl) : PD X (.Call (.Attribute o "pop" apos) [] [] pos) (dM0 gPop to) := by
  obtain ⟨ea, pa, fa⟩ := ho.ex
  refine ⟨_, pe_bm0 PySem.F.plainAttrs_list PySem.F.slot_list_pop PySem.F.type_list_pop mt_pop pa hbase hline, @fun σ H ρ μ Q Qd o t k => ?_⟩
  refine fa o t fun x dx H1 μ1 g1 j1 h1 t1 => ?_
  unfold gPop at t1
  split at t1
  · rename_i a
    cases h1
    split at t1
    · rename_i xs q
      obtain ⟨vs, e, l⟩ := j1 a _ q
      split at t1
      · rename_i d qd
        obtain ⟨v, ev, hv⟩ := l.get qd
        refine ⟨.inl ⟨rfl, vs, SqL.of e⟩, a, vs, v, rfl, rfl, e, by rw [l.length]; exact ev, ?_⟩
        have gg : Gr μ1 H1 (mup μ1 a (.lst xs.dropLast)) (upd H1 a (.lst vs.dropLast)) := Gr.turn q
        exact (k.after g1) _ _ _ _ gg (j1.turn q ⟨_, upd_same, l.dropLast.grow gg⟩) (hv.grow gg) t1
      · exact t1.elim
    · exact t1.elim
  · exact t1.elim
theorem pd_append (ho : PD X o to) (ha : PDA X (e :: es) tA) (hbase : attributeBase o "append" X.env (eval o X.env) = eval o X.env := by rfl)
    (hfew : ((backTo pos (starEach (e :: es) X.env)).all (fun x => !x.1) && (backToKw pos (keywordEach [] X.env)).all (fun x => x.1.isSome)
      && decide ((e :: es).length + ([] : List Keyword).length + (if ([] : List Keyword).isEmpty then 0 else 1) < 30)) = true := by rfl)
    (hline : (apos.endLine == pos.line) = true := by rfl) (hs : starEach (e :: es) X.env = (false, eval e X.env) :: starEach es X.env := by rfl) (hplain : (backTo pos (starEach es X.env)).any (·.1) = false := by rfl) :
    PD X (.Call (.Attribute o "append" apos) (e :: es) [] pos) (dM gAppend to tA) := by
  obtain ⟨eo, po, fo⟩ := ho.ex
  obtain ⟨ea, pa, fa⟩ := ha.ex
  refine ⟨_, pe_bm PySem.F.plainAttrs_list PySem.F.slot_list_append PySem.F.type_list_append mt_append po pa hbase hfew hline hs hplain, @fun σ H ρ μ Q Qd o t k => ?_⟩
  refine fo o t fun x dx H1 μ1 g1 j1 h1 t1 => ?_
  obtain ⟨⟨a, xs, rfl, q⟩, t1⟩ := t1
  cases h1
  obtain ⟨vs, e, l⟩ := j1 a _ q
  refine ⟨.inl ⟨rfl, vs, SqL.of e⟩, fa (o.grow g1 j1) t1 fun us ds H2 μ2 g2 j2 h2 t2 => ?_⟩
  unfold gAppend at t2
  split at t2
  · rename_i a d ez
    cases ez
    obtain ⟨v, rfl, hv⟩ := h2.one
    split at t2
    · rename_i ys q2
      obtain ⟨ws, e2, l2⟩ := j2 a _ q2
      have gg : Gr μ2 H2 (mup μ2 a (.lst (ys ++ [d]))) (upd H2 a (.lst (ws ++ [v]))) := Gr.turn q2
      refine ⟨a, ws, v, rfl, rfl, e2, by rw [l2.length]; exact t2.1, ?_⟩
      exact ((k.after g1).after g2) _ _ _ _ gg (j2.turn q2 ⟨_, upd_same, (l2.append (.cons hv .nil)).grow gg⟩) .non t2.2
    · exact t2.elim
  · exact t2.elim
end

/-! ### statements -/
structure DEnds where
  nx : Ro → Mu → Prop
  rt : DQ
  bk : Ro → Mu → Prop := fun _ _ => False
  ct : Ro → Mu → Prop := fun _ _ => False
abbrev DS := DEnds → Ro → Mu → Prop
abbrev DG := D → Ro → Mu → (Ro → Mu → Prop) → Prop
abbrev DGs := List D → Ro → Mu → (Ro → Mu → Prop) → Prop
def KtS (K : PySem.W.Frag) (μ : Mu) (H : Hp) (Q : L2.St → Hp → Prop) (Qd : Ro → Mu → Prop) : Prop := ∀ σ' H' ρ' μ', Gr μ H μ' H' → Okd K μ' H' σ' ρ' → Qd ρ' μ' → Q σ' H'
structure EK (K : PySem.W.Frag) (μ : Mu) (H : Hp) (D : Ends) (Dd : DEnds) : Prop where
  nx : KtS K μ H D.nx Dd.nx
  rt : Kt K μ H D.rt Dd.rt
  bk : KtS K μ H D.bk Dd.bk
  ct : KtS K μ H D.ct Dd.ct
section
variable {K : PySem.W.Frag} {μ μ1 : Mu} {H H1 : Hp}
theorem KtS.after {Q : L2.St → Hp → Prop} {Qd : Ro → Mu → Prop} (k : KtS K μ H Q Qd) (g : Gr μ H μ1 H1) : KtS K μ1 H1 Q Qd := fun σ' H' ρ' μ' g' o q => k σ' H' ρ' μ' (g.trans g') o q
theorem EK.after {D : Ends} {Dd : DEnds} (k : EK K μ H D Dd) (g : Gr μ H μ1 H1) : EK K μ1 H1 D Dd := ⟨k.nx.after g, k.rt.after g, k.bk.after g, k.ct.after g⟩
end
structure PDS (X : Cx) (st : Stmt) (t : DS) : Prop where
  ex : ∃ ts, PS X st ts ∧ ∀ {σ : L2.St} {H : Hp} {ρ : Ro} {μ : Mu} {D : Ends} {Dd : DEnds}, Okd X.K μ H σ ρ → t Dd ρ μ → EK X.K μ H D Dd → ts D σ H
structure PDSs (X : Cx) (st : List Stmt) (t : DS) : Prop where
  ex : ∃ ts, PSs X st ts ∧ ∀ {σ : L2.St} {H : Hp} {ρ : Ro} {μ : Mu} {D : Ends} {Dd : DEnds}, Okd X.K μ H σ ρ → t Dd ρ μ → EK X.K μ H D Dd → ts D σ H
structure PDG (X : Cx) (tg : Expr) (t : DG) : Prop where
  ex : ∃ g, PG X tg g ∧ ∀ {v : V} {d : D} {σ : L2.St} {H : Hp} {ρ : Ro} {μ : Mu} {Q : L2.St → Hp → Prop} {Qd : Ro → Mu → Prop}, Okd X.K μ H σ ρ → Da X.K μ H v d → t d ρ μ Qd → KtS X.K μ H Q Qd → g v σ H Q
structure PDGs (X : Cx) (tg : List Expr) (t : DGs) : Prop where
  ex : ∃ g, PGs X tg g ∧ ∀ {v : List V} {d : List D} {σ : L2.St} {H : Hp} {ρ : Ro} {μ : Mu} {Q : L2.St → Hp → Prop} {Qd : Ro → Mu → Prop}, Okd X.K μ H σ ρ → DaL X.K μ H v d → t d ρ μ Qd → KtS X.K μ H Q Qd → g v σ H Q
section
variable {X : Cx} {K : PySem.W.Frag} {a b e o : Expr} {es : List Expr} {ta tb te to ti : DE} {tA : DA} {pos p apos : Pos} {st : Stmt} {sts rest : List Stmt} {t u : DS} {tT : DT}
def dSeq (t u : DS) : DS := fun D ρ μ => t { D with nx := u D } ρ μ
def dNext : DS := fun D ρ μ => D.nx ρ μ
theorem ds_nil : PDSs X [] dNext := ⟨_, pss_nil, @fun σ H ρ μ D Dd o t k => k.nx _ _ _ _ Gr.refl o t⟩
theorem ds_one (h : PDS X st t) : PDSs X [st] t := by
  obtain ⟨ts, ps, f⟩ := h.ex
  exact ⟨_, pss_one ps, @fun σ H ρ μ D Dd o t k => f o t k⟩
theorem ds_cons (h1 : PDS X st t) (h2 : PDSs X rest u) : PDSs X (st :: rest) (dSeq t u) := by
  obtain ⟨ts, ps, f⟩ := h1.ex
  obtain ⟨us, qs, g⟩ := h2.ex
  refine ⟨_, pss_cons ps qs, @fun σ H ρ μ D Dd o t k => f o t ⟨fun σ1 H1 ρ1 μ1 g1 o1 q1 => g o1 q1 (k.after g1), k.rt, k.bk, k.ct⟩⟩
/-- what holds between two statements is said: the ways behind the first one join -/
def dCut (t u : DS) : DS := fun D ρ μ => ∃ M : Ro → Mu → Prop, t { D with nx := M } ρ μ ∧ ∀ ρ μ, M ρ μ → u D ρ μ
theorem ds_cut (h1 : PDS X st t) (h2 : PDSs X rest u) : PDSs X (st :: rest) (dCut t u) := by
  obtain ⟨ts, ps, f⟩ := h1.ex
  obtain ⟨us, qs, g⟩ := h2.ex
  refine ⟨_, pss_cons ps qs, @fun σ H ρ μ D Dd o t k => ?_⟩
  obtain ⟨M, h, hM⟩ := t
  exact f o h ⟨fun σ1 H1 ρ1 μ1 g1 o1 q1 => g o1 (hM _ _ q1) (k.after g1), k.rt, k.bk, k.ct⟩
def dDrop (te : DE) : DS := fun D ρ μ => te ρ μ fun _ μ1 => D.nx ρ μ1
theorem ds_expr (he : PD X e te) (hs : swapsWith e none pos.line X.env = pure false := by rfl) : PDS X (.Expr e pos) (dDrop te) := by
  obtain ⟨ea, pa, fa⟩ := he.ex
  exact ⟨_, ps_expr pa hs, @fun σ H ρ μ D Dd o t k => fa o t fun x dx H1 μ1 g1 j1 h1 t1 => k.nx _ _ _ _ g1 (o.grow g1 j1) t1⟩
def dRet (te : DE) : DS := fun D ρ μ => te ρ μ D.rt
theorem ds_ret (he : PD X e te) : PDS X (.Return (some e) pos) (dRet te) := by
  obtain ⟨ea, pa, fa⟩ := he.ex
  exact ⟨_, ps_ret pa, @fun σ H ρ μ D Dd o t k => fa o t k.rt⟩
def dIf (c : DT) (t u : DS) : DS := fun D ρ μ => c ρ μ fun b μ1 => if b = true then t D ρ μ1 else u D ρ μ1
theorem ds_if {c : Expr} {x y : List Stmt} (hc : PDT X c tT) (ha : PDSs X x t) (hb : PDSs X y u) : PDS X (.If c x y pos) (dIf tT t u) := by
  obtain ⟨ec, pc, fc⟩ := hc.ex
  obtain ⟨ea, pa, fa⟩ := ha.ex
  obtain ⟨eb, pb, fb⟩ := hb.ex
  refine ⟨_, ps_if pc pa pb, @fun σ H ρ μ D Dd o t k => fc o t fun c H1 μ1 g1 j1 t1 => ?_⟩
  cases c with
  | true => exact iteT (fa (o.grow g1 j1) (by simpa using t1) (k.after g1))
  | false => exact iteF (fb (o.grow g1 j1) (by simpa using t1) (k.after g1))
/-! targets -/
def dName (i : Nat) : DG := fun d ρ μ Q => Q (ρ.set i (some d)) μ
theorem dg_name {i : Nat} {x : Str} (hN : X.N.Nodup) (hi : X.N[i]? = some x := by rfl) (hx : Loc X.env.scope x := by first | exact .inl rfl | exact .inr rfl) (hf : X.fn x = true ∨ X.env.scope.names.lookup x = some .local := by first | exact .inl rfl | exact .inr rfl | assumption) : PDG X (.Name x pos) (dName i) :=
  ⟨_, pg_name hN hi hx hf, @fun v d σ H ρ μ Q Qd o h t k => k _ _ _ _ Gr.refl (o.set i h) t⟩
def dGNil : DGs := fun ds ρ μ Q => match ds with
  | [] => Q ρ μ
  | _ => False
def dGCons (t : DG) (u : DGs) : DGs := fun ds ρ μ Q => match ds with
  | d :: r => t d ρ μ fun ρ' μ' => u r ρ' μ' Q
  | _ => False
theorem dgs_nil : PDGs X [] dGNil := by
  refine ⟨_, pgs_nil, @fun v d σ H ρ μ Q Qd o h t k => ?_⟩
  cases h with
  | nil => exact ⟨rfl, k _ _ _ _ Gr.refl o t⟩
  | cons _ _ => exact t.elim
theorem dgs_cons {tg : DG} {ug : DGs} (h1 : PDG X e tg) (h2 : PDGs X es ug) (hs : (assignEach (e :: es) X.env).map (·.2) = assign e X.env :: (assignEach es X.env).map (·.2) := by rfl) : PDGs X (e :: es) (dGCons tg ug) := by
  obtain ⟨g1, p1, f1⟩ := h1.ex
  obtain ⟨g2, p2, f2⟩ := h2.ex
  refine ⟨_, pgs_cons p1 p2 hs, @fun v d σ H ρ μ Q Qd o h t k => ?_⟩
  cases h with
  | nil => exact t.elim
  | cons h l => exact ⟨_, _, rfl, f1 o h t fun σ1 H1 ρ1 μ1 gr1 o1 q1 => f2 o1 (l.grow gr1) q1 (k.after gr1)⟩
def dGTup (n : Nat) (t : DGs) : DG := fun d ρ μ Q => match d with
  | .tup ds => ds.length = n ∧ t ds ρ μ Q
  | _ => False
theorem dg_tup {k : Nat} {tg : DGs} (hc : X.calm = true) (h : PDGs X es tg) (hn : (assignEach es X.env).length = es.length := by rfl) (hst : (assignEach es X.env).findIdx? (·.1) = none := by rfl) : PDG X (.Tuple es k pos) (dGTup es.length tg) := by
  obtain ⟨g1, p1, f1⟩ := h.ex
  refine ⟨_, pg_tup hc p1 hn hst, @fun v d σ H ρ μ Q Qd o h t k => ?_⟩
  unfold dGTup at t
  split at t
  · cases h with | tup e l =>
    exact ⟨_, _, rfl, Da.sqT e, l.length.trans t.1, f1 o l t.2 k⟩
  · exact t.elim
def dAsg (te : DE) (g : DG) : DS := fun D ρ μ => te ρ μ fun x μ1 => g x ρ μ1 D.nx
theorem ds_asg {tg : Expr} {g : DG} (he : PD X e te) (hg : PDG X tg g) (hs : swapsWithSole [tg] e pos.line X.env = pure false := by rfl) (hw : swappedStores [tg] e X.env = pure none := by rfl)
    (h1 : (assignEach [tg] X.env).map (·.2) = [assign tg X.env] := by rfl) : PDS X (.Assign [tg] e pos) (dAsg te g) := by
  obtain ⟨ea, pa, fa⟩ := he.ex
  obtain ⟨gg, pg, fg⟩ := hg.ex
  exact ⟨_, ps_asg pa pg hs hw h1, @fun σ H ρ μ D Dd o t k => fa o t fun x dx H1 μ1 g1 j1 h1 t1 => fg (o.grow g1 j1) h1 t1 (k.nx.after g1)⟩
theorem ds_set {i : Nat} {x : Str} {pos' : Pos} (hN : X.N.Nodup) (he : PD X e te) (hi : X.N[i]? = some x := by rfl) (hx : Loc X.env.scope x := by first | exact .inl rfl | exact .inr rfl) (hs : swapsWith e (some (.Name x pos')) pos.line X.env = pure false := by rfl)
    (hf : X.fn x = true ∨ X.env.scope.names.lookup x = some .local := by first | exact .inl rfl | exact .inr rfl | assumption) : PDS X (.Assign [.Name x pos'] e pos) (dAsg te (dName i)) := by
  obtain ⟨ea, pa, fa⟩ := he.ex
  exact ⟨_, ps_set hN hi hx pa hs hf, @fun σ H ρ μ D Dd o t k => fa o t fun x dx H1 μ1 g1 j1 h1 t1 => k.nx _ _ _ _ g1 ((o.grow g1 j1).set i h1) t1⟩
/-- x = e, with a word about the value -/
def dAsgC (te : DE) (i : Nat) : DS := fun D ρ μ => ∃ M : DQ, te ρ μ M ∧ ∀ d μ1, M d μ1 → D.nx (ρ.set i (some d)) μ1
theorem ds_setC {i : Nat} {x : Str} {pos' : Pos} (hN : X.N.Nodup) (he : PD X e te) (hi : X.N[i]? = some x := by rfl) (hx : Loc X.env.scope x := by first | exact .inl rfl | exact .inr rfl) (hs : swapsWith e (some (.Name x pos')) pos.line X.env = pure false := by rfl)
    (hf : X.fn x = true ∨ X.env.scope.names.lookup x = some .local := by first | exact .inl rfl | exact .inr rfl | assumption) : PDS X (.Assign [.Name x pos'] e pos) (dAsgC te i) := by
  obtain ⟨ea, pa, fa⟩ := he.ex
  refine ⟨_, ps_set hN hi hx pa hs hf, @fun σ H ρ μ D Dd o t k => ?_⟩
  obtain ⟨M, h, hM⟩ := t
  exact fa o h fun x dx H1 μ1 g1 j1 h1 t1 => k.nx _ _ _ _ g1 ((o.grow g1 j1).set i h1) (hM _ _ t1)
def dPar (i j : Nat) (t : DA) : DS := fun D ρ μ => t ρ μ fun ds μ1 => match ds with
  | [x, y] => D.nx ((ρ.set i (some x)).set j (some y)) μ1
  | _ => False
theorem ds_par {i j : Nat} {x y : Str} {px py pt : Pos} {kt k2 pt2} (hc : X.calm = true) (hN : X.N.Nodup) (ha : PDA X [a, b] tA) (hi : X.N[i]? = some x := by rfl) (hj : X.N[j]? = some y := by rfl) (hij : i ≠ j := by decide)
    (hx : X.env.scope.names.lookup x = some .local := by rfl) (hy : X.env.scope.names.lookup y = some .local := by rfl)
    (hw : swappedStores [.Tuple [.Name x px, .Name y py] kt pt] (.Tuple [a, b] k2 pt2) X.env = pure (some [x, y]) := by rfl)
    (hs : swapsWithSole [.Tuple [.Name x px, .Name y py] kt pt] (.Tuple [a, b] k2 pt2) pos.line X.env = pure false := by rfl) :
    PDS X (.Assign [.Tuple [.Name x px, .Name y py] kt pt] (.Tuple [a, b] k2 pt2) pos) (dPar i j tA) := by
  obtain ⟨ea, pa, fa⟩ := ha.ex
  refine ⟨_, ps_par hc hN hi hj hij hx hy pa hw hs, @fun σ H ρ μ D Dd o t k => fa o t fun xs ds H1 μ1 g1 j1 h1 t1 => ?_⟩
  split at t1
  · obtain ⟨v, v', rfl, h2, h3⟩ := h1.two
    exact ⟨v, v', rfl, k.nx _ _ _ _ g1 (((o.grow g1 j1).set i h2).set j h3) t1⟩
  · exact t1.elim
/-- xs[i] = e, xs a list that changes -/
def gSetL : D → D → D → Mu → (Mu → Prop) → Prop := fun x i d μ Q => match x, i with
  | .ref a, .int k => match μ a with
    | some (.lst xs) => match ixN xs.length k with
      | some j => Q (mup μ a (.lst (xs.set j d)))
      | none => False
    | _ => False
  | _, _ => False
def dSub (to ti : DE) : DG := fun d ρ μ Q => to ρ μ fun x μ1 => ti ρ μ1 fun i μ2 => gSetL x i d μ2 fun μ3 => Q ρ μ3
theorem dg_sub (ho : PD X o to) (hi : PD X a ti) (ha : ∀ v, assign (.Subscript o a pos) X.env v = (do
      let ov ← holding [v] (eval o X.env)
      let iv ← holding [v, ov] (eval a X.env)
      standAt pos
      holding [v, ov, iv] (setItem ov iv v)
      release [v, ov, iv] []) := by intro _; rfl) : PDG X (.Subscript o a pos) (dSub to ti) := by
  obtain ⟨eo, po, fo⟩ := ho.ex
  obtain ⟨ei, pi, fi⟩ := hi.ex
  refine ⟨_, pg_sub po pi set_list ha, @fun v d σ H ρ μ Q Qd o h t k => ?_⟩
  refine fo o t fun x dx H1 μ1 g1 j1 h1 t1 => ?_
  have o1 := o.grow g1 j1
  refine fi o1 t1 fun y dy H2 μ2 g2 j2 h2 t2 => ?_
  have h1' := h1.grow g2
  unfold gSetL at t2
  split at t2
  · rename_i c kk
    cases h1'
    cases h2
    split at t2
    · rename_i xs q
      obtain ⟨vs, e, l⟩ := j2 c _ q
      split at t2
      · rename_i n en
        have gg : Gr μ2 H2 (mup μ2 c (.lst (xs.set n d))) (upd H2 c (.lst (vs.set n v))) := Gr.turn q
        refine ⟨c, vs, kk, n, rfl, rfl, e, by rw [l.length]; exact en, ?_⟩
        have jj := j2.turn (o := .lst (vs.set n v)) (u' := .lst (xs.set n d)) q ⟨_, upd_same, (DaL.set ((h.grow g1).grow g2) n l).grow gg⟩
        exact k _ _ _ _ ((g1.trans g2).trans gg) ((o1.grow g2 j2).grow gg jj) t2
      · exact t2.elim
    · exact t2.elim
  · exact t2.elim

/-! for -/
/-- what is walked: the items, and what must stay true of the store for them to stay -/
structure ItD (K : PySem.W.Frag) (It : It) (xs : List D) (src : Mu → Prop) (μ1 : Mu) (H1 : Hp) : Prop where
  step : ∀ i μ H, i < xs.length → Gr μ1 H1 μ H → J K μ H → src μ → It.go i H ∧ ∀ x H', It.yld i H x H' → ∃ d, xs[i]? = some d ∧ Gr μ H μ H' ∧ J K μ H' ∧ Da K μ H' x d
  fin : ∀ μ H, Gr μ1 H1 μ H → J K μ H → src μ → It.stop xs.length H
abbrev DI := Ro → Mu → (List D → (Mu → Prop) → Mu → Prop) → Prop
structure PDI (X : Cx) (tg iter : Expr) (t : DI) : Prop where
  ex : ∃ wi, PI X tg iter wi ∧ ∀ {σ : L2.St} {H : Hp} {ρ : Ro} {μ : Mu} {R : It → Hp → Prop} {Rd : List D → (Mu → Prop) → Mu → Prop}, Okd X.K μ H σ ρ → t ρ μ Rd →
    (∀ It xs src H' μ', Gr μ H μ' H' → J X.K μ' H' → ItD X.K It xs src μ' H' → Rd xs src μ' → R It H') → wi σ H R
/-- a list, a tuple -/
def dRow (te : DE) : DI := fun ρ μ R => te ρ μ fun x μ1 => match x with
  | .lst xs => R xs (fun _ => True) μ1
  | .sq xs => R xs (fun _ => True) μ1
  | .ref a => match μ1 a with
    | some (.lst xs) => R xs (fun μ => μ a = some (.lst xs)) μ1
    | _ => False
  | _ => False
def dRowT (te : DE) : DI := fun ρ μ R => te ρ μ fun x μ1 => match x with
  | .tup xs => R xs (fun _ => True) μ1
  | _ => False
theorem lt_get {α : Type} {xs : List α} {i : Nat} (h : i < xs.length) : xs[i]? = some xs[i] := List.getElem?_eq_getElem h
theorem it_list {a : Addr} {xs : List D} {src : Mu → Prop} {μ1 : Mu} {H1 : Hp} (h : ∀ μ H, Gr μ1 H1 μ H → J K μ H → src μ → ∃ vs, SqL K H a vs ∧ DaL K μ H vs xs) : ItD K (Itl K a) xs src μ1 H1 where
  step := fun i μ H hi g j s => by
    obtain ⟨vs, hq, l⟩ := h μ H g j s
    obtain ⟨v, ev, hv⟩ := l.get (lt_get hi)
    refine ⟨⟨vs, v, hq, ev⟩, fun x H' y => ?_⟩
    obtain ⟨rfl, y⟩ := y
    have e := (y vs hq).symm.trans ev
    cases e
    exact ⟨_, lt_get hi, Gr.refl, j, hv⟩
  fin := fun μ H g j s => by
    obtain ⟨vs, hq, l⟩ := h μ H g j s
    exact ⟨vs, hq, Nat.le_of_eq l.length⟩
theorem it_tup {a : Addr} {xs : List D} {src : Mu → Prop} {μ1 : Mu} {H1 : Hp} (h : ∀ μ H, Gr μ1 H1 μ H → J K μ H → src μ → ∃ vs, SqT K H a vs ∧ DaL K μ H vs xs) : ItD K (Itt K a) xs src μ1 H1 where
  step := fun i μ H hi g j s => by
    obtain ⟨vs, hq, l⟩ := h μ H g j s
    obtain ⟨v, ev, hv⟩ := l.get (lt_get hi)
    refine ⟨⟨vs, v, hq, ev⟩, fun x H' y => ?_⟩
    obtain ⟨rfl, y⟩ := y
    have e := (y vs hq).symm.trans ev
    cases e
    exact ⟨_, lt_get hi, Gr.refl, j, hv⟩
  fin := fun μ H g j s => by
    obtain ⟨vs, hq, l⟩ := h μ H g j s
    exact ⟨vs, hq, Nat.le_of_eq l.length⟩
theorem di_list {tg : Expr} (he : PD X e te) : PDI X tg e (dRow te) := by
  obtain ⟨ea, pa, fa⟩ := he.ex
  refine ⟨_, pi_list pa, @fun σ H ρ μ R Rd o t k => fa o t fun x dx H1 μ1 g1 j1 h1 t1 => ?_⟩
  split at t1
  · cases h1 with | lst n e l =>
    exact ⟨_, rfl, ⟨_, SqL.of e⟩, k _ _ _ _ _ g1 j1 (it_list fun μ H g j _ => ⟨_, SqL.of (g.keep _ _ n e), l.grow g⟩) t1⟩
  · cases h1 with | sq e l =>
    refine ⟨_, rfl, ⟨_, Da.sqL e⟩, k _ _ _ _ _ g1 j1 (it_list fun μ H g j _ => ⟨_, ?_, l.grow g⟩) t1⟩
    rcases e with ⟨n, e⟩ | e
    · exact .inl (g.rd n e).2
    · exact .inr e
  · cases h1
    split at t1
    · rename_i q
      obtain ⟨vs, e, l⟩ := j1 _ _ q
      refine ⟨_, rfl, ⟨_, SqL.of e⟩, k _ _ _ _ _ g1 j1 (it_list fun μ H g j s => ?_) t1⟩
      obtain ⟨ws, e2, l2⟩ := j _ _ s
      exact ⟨ws, SqL.of e2, l2⟩
    · exact t1.elim
  · exact t1.elim
theorem di_tup {tg : Expr} (he : PD X e te) : PDI X tg e (dRowT te) := by
  obtain ⟨ea, pa, fa⟩ := he.ex
  refine ⟨_, pi_tup pa, @fun σ H ρ μ R Rd o t k => fa o t fun x dx H1 μ1 g1 j1 h1 t1 => ?_⟩
  split at t1
  · cases h1 with | tup e l =>
    refine ⟨_, rfl, ⟨_, Da.sqT e⟩, k _ _ _ _ _ g1 j1 (it_tup fun μ H g j _ => ⟨_, ?_, l.grow g⟩) t1⟩
    rcases e with ⟨n, e⟩ | e
    · exact .inl (g.rd n e).2
    · exact .inr e
  · exact t1.elim
def rng (lo : Int) (n : Nat) : List D := (List.range n).map fun (i : Nat) => D.int (lo + (i : Int))
theorem rng_len {lo : Int} {n : Nat} : (rng lo n).length = n := by unfold rng; simp
theorem rng_get {lo : Int} {n i : Nat} (h : i < n) : (rng lo n)[i]? = some (.int (lo + (i : Int))) := by
  unfold rng
  rw [List.getElem?_map, List.getElem?_range h]
  rfl
def dRng1 (t : DA) : DI := fun ρ μ R => t ρ μ fun ds μ1 => match ds with
  | [.int j] => -(2 ^ 62) ≤ j ∧ j < 2 ^ 62 ∧ R (rng 0 j.toNat) (fun _ => True) μ1
  | _ => False
theorem di_range1 {tg : Expr} (hm : X.mg "range" = none) (ha : PDA X [a] tA) (hg : Gl X "range" := by rfl) (hs : starEach [a] X.env = [(false, eval a X.env)] := by rfl) : PDI X tg (.Call (.Name "range" p) [a] [] pos) (dRng1 tA) := by
  obtain ⟨ea, pa, fa⟩ := ha.ex
  refine ⟨_, pi_range1 hg hm pa hs, @fun σ H ρ μ R Rd o t k => fa o t fun xs ds H1 μ1 g1 j1 h1 t1 => ?_⟩
  split at t1
  · rename_i n
    obtain ⟨v, rfl, hv⟩ := h1.one
    cases hv
    refine ⟨n, rfl, t1.1, t1.2.1, k _ _ _ _ _ g1 j1 ⟨fun i μ H hi g j s => ?_, fun μ H g j s => ?_⟩ t1.2.2⟩
    · rw [rng_len] at hi
      refine ⟨hi, fun x H' y => ?_⟩
      obtain ⟨rfl, rfl⟩ := y
      exact ⟨_, rng_get hi, Gr.refl, j, .int _⟩
    · rw [rng_len]
      exact Nat.le_refl _
  · exact t1.elim
def dFor (ti : DI) (g : DG) (tb : DS) : DS := fun D ρ μ => ti ρ μ fun xs src μ1 => ∃ Pv : Nat → Ro → Mu → Prop, Pv 0 ρ μ1 ∧ (∀ i ρ μ, Pv i ρ μ → src μ) ∧
  (∀ i x ρ μ, xs[i]? = some x → Pv i ρ μ → g x ρ μ fun ρ2 μ2 => tb { D with nx := Pv (i + 1), ct := Pv (i + 1), bk := D.nx } ρ2 μ2) ∧ ∀ ρ μ, Pv xs.length ρ μ → D.nx ρ μ
theorem ds_for {tg iter : Expr} {body : List Stmt} {ti : DI} {g : DG} {tb : DS} (hp : PassesOwn (model X.prog X.w) X.A X.env X.xe) (hc : X.calm = true) (hi : PDI X tg iter ti) (hg : PDG X tg g) (hb : PDSs X body tb)
    (hs : ∀ x, foldedSetIterable iter X.env x = pure x := by intro _; rfl) : PDS X (.For tg iter body [] pos) (dFor ti g tb) := by
  obtain ⟨wi, pi, fi⟩ := hi.ex
  obtain ⟨gg, pg, fg⟩ := hg.ex
  obtain ⟨bb, pb, fb⟩ := hb.ex
  refine ⟨_, ps_for hp hc pi pg pb hs, @fun σ H ρ μ D Dd o t k => fi o t fun It xs src H1 μ1 g1 j1 I t1 => ?_⟩
  obtain ⟨Pv, p0, ps, pt, pe⟩ := t1
  have o1 := o.grow g1 j1
  refine ⟨fun i m σ H => m = xs.length - i ∧ i ≤ xs.length ∧ ∃ ρ μ, Gr μ1 H1 μ H ∧ Okd X.K μ H σ ρ ∧ Pv i ρ μ, ⟨xs.length, by simp, Nat.zero_le _, ρ, μ1, Gr.refl, o1, p0⟩, ?_⟩
  rintro i m σ2 H2 ⟨rfl, hi, ρ2, μ2, gr2, o2, p2⟩
  by_cases hl : i < xs.length
  · obtain ⟨go, yl⟩ := I.step i μ2 H2 hl gr2 o2.j (ps _ _ _ p2)
    refine .inr ⟨go, fun σ' H' => i + 1 ≤ xs.length ∧ ∃ ρ μ, Gr μ1 H1 μ H' ∧ Okd X.K μ H' σ' ρ ∧ Pv (i + 1) ρ μ, fun σ' H' ⟨a1, a2⟩ => ⟨xs.length - (i + 1), by omega, rfl, a1, a2⟩, fun x H' y => ?_⟩
    obtain ⟨d, ed, g3, j3, h3⟩ := yl x H' y
    have o3 := o2.grow g3 j3
    refine fg o3 h3 (pt i d ρ2 μ2 ed p2) fun σ4 H4 ρ4 μ4 g4 o4 q4 => ?_
    have gall : Gr μ1 H1 μ4 H4 := (gr2.trans g3).trans g4
    refine fb o4 q4 ⟨?_, (k.rt.after g1).after gall, (k.nx.after g1).after gall, ?_⟩
    · exact fun σ5 H5 ρ5 μ5 g5 o5 q5 => ⟨hl, ρ5, μ5, gall.trans g5, o5, q5⟩
    · exact fun σ5 H5 ρ5 μ5 g5 o5 q5 => ⟨hl, ρ5, μ5, gall.trans g5, o5, q5⟩
  · have e : i = xs.length := by omega
    subst e
    exact .inl ⟨I.fin μ2 H2 gr2 o2.j (ps _ _ _ p2), k.nx _ _ _ _ (g1.trans gr2) o2 (pe _ _ p2)⟩
end

/-! ### a def by its body -/
def startD (N : List Str) (ds : List D) : Ro := ds.map some ++ List.replicate (N.length - ds.length) none
theorem start_ok {K : PySem.W.Frag} {μ : Mu} {H : Hp} {N : List Str} {vs : List V} {ds : List D} (j : J K μ H) (l : DaL K μ H vs ds) : Okd K μ H (start N vs) (startD N ds) := by
  have n := l.length
  refine ⟨j, by unfold L2.start startD; simp [n], fun i d h => ?_⟩
  unfold startD at h
  unfold L2.start
  by_cases hi : i < ds.length
  · rw [List.getElem?_append_left (by simpa using hi), List.getElem?_map] at h
    obtain ⟨d', e, e'⟩ := Option.map_eq_some_iff.mp h
    cases e'
    obtain ⟨v, ev, hv⟩ := l.get e
    refine ⟨v, ?_, hv⟩
    rw [List.getElem?_append_left (by simpa [n] using hi), List.getElem?_map, ev]
    rfl
  · rw [List.getElem?_append_right (by simpa using hi), List.getElem?_replicate] at h
    split at h <;> cases h
section
variable {P : Program} {w : World} {K : PySem.W.Frag} {mg : Str → Option Value} {base : Heap} {k : Nat} {f : Addr} {fd : FuncData} {ps N : List Str} {spd : SpD} {x qual : Str} {st : Stmt}
theorem okD (F : Fun K x qual st f fd) (S : FnScope N ps (defScope st)) (ar : ∀ {ds μ Q}, spd ds μ Q → ds.length = ps.length)
    (body : ∀ (X : Cx), (∃ cdv A outer s H E, X = (cxOf CX0 P w K mg base N qual (defScope st) f cdv A outer s H E).nox) → X.A.guards = some [] → Room k X.A → ∃ t, PDSs X (defBody st) t ∧ ∀ {ds μ Q}, spd ds μ Q → t { nx := fun _ μ => Q .non μ, rt := Q } (startD N ds) μ) :
    FnG P w K mg base CX0 (k + 1) f fd ps (up K spd) := by
  refine okG F S (@fun vs H Q E h => ?_) (@fun cdv A outer s H vs Q E hg hr h => ?_)
  · obtain ⟨ds, μ, Qd, j, l, q, _⟩ := h
    exact l.length.trans (ar q)
  · obtain ⟨ds, μ, Qd, j, l, q, kk⟩ := h
    obtain ⟨t, ht, hq⟩ := body _ ⟨cdv, A, outer, s, H, E, rfl⟩ hg hr
    obtain ⟨ts, p, fn⟩ := ht.ex
    refine ⟨ts, p.nox, fn (start_ok j l) (hq q) ⟨fun σ' H' ρ' μ' g' o' q' => kk _ _ _ _ g' o'.j .non q', kk, fun _ _ _ _ _ _ z => z.elim, fun _ _ _ _ _ _ z => z.elim⟩⟩
end
end Dl

/-! rows that turn readings into plain sentences -/
namespace Dl
open PySem PySem.Spec PyProof.Rows L2
section
variable {μ : Mu} {Q : DQ} {x y : D} {xs ys : List D} {i j : Int} {a b : Str} {p q : Bool}
theorem vw_lst : vw μ (.lst xs) = .lst xs := rfl
theorem vw_sq : vw μ (.sq xs) = .sq xs := rfl
theorem vw_tup : vw μ (.tup xs) = .tup xs := rfl
theorem vw_str : vw μ (.str a) = .str a := rfl
theorem vw_int : vw μ (.int i) = .int i := rfl
theorem vw_bl : vw μ (.bl p) = .bl p := rfl
theorem vw_non : vw μ .non = .non := rfl
theorem vw_ref {c : Addr} (h : μ c = some (.lst xs)) : vw μ (.ref c) = .lst xs := by simp only [vw, h]
theorem dp_int : (PyData.int i).depth = 0 := by simp only [PyData.depth]
theorem dp_str : (PyData.str a).depth = 0 := by simp only [PyData.depth]
theorem dp_bool : (PyData.bool p).depth = 0 := by simp only [PyData.depth]
theorem dp_none : PyData.none.depth = 0 := by simp only [PyData.depth]
/-! == -/
theorem gEq_int : gEq (.int i) (.int j) μ Q = Q (.bl (decide (i = j))) μ := by
  unfold gEq gD CEq
  simp only [vw_int, pur, py, PyData.plain, dp_int, PyData.eqv, true_and, Nat.zero_le]
  first | rfl | (rw [Bool.beq_eq_decide_eq])
theorem gNe_int : gNe (.int i) (.int j) μ Q = Q (.bl (!decide (i = j))) μ := by
  unfold gNe gD CEq
  simp only [vw_int, pur, py, PyData.plain, dp_int, PyData.eqv, true_and, Nat.zero_le]
  first | rfl | (rw [Bool.beq_eq_decide_eq])
theorem gEq_bl : gEq (.bl p) (.bl q) μ Q = Q (.bl (decide (p = q))) μ := by
  unfold gEq gD CEq
  simp only [vw_bl, pur, py, PyData.plain, dp_bool, PyData.eqv, true_and, Nat.zero_le]
  first | rfl | (rw [Bool.beq_eq_decide_eq])
theorem gEq_str : gEq (.str a) (.str b) μ Q = Q (.bl (decide (a = b))) μ := by
  unfold gEq gD CEq
  simp only [vw_str, pur, py, PyData.plain, dp_str, PyData.eqv, true_and, Nat.zero_le]
  have : (a == b) = decide (a = b) := by rw [Bool.eq_iff_iff]; simp
  first | rfl | rw [this]
theorem gNe_str : gNe (.str a) (.str b) μ Q = Q (.bl (!decide (a = b))) μ := by
  unfold gNe gD CEq
  simp only [vw_str, pur, py, PyData.plain, dp_str, PyData.eqv, true_and, Nat.zero_le]
  have : (a == b) = decide (a = b) := by rw [Bool.eq_iff_iff]; simp
  first | rfl | rw [this]
/-! order -/
theorem gLt_int : gLt (.int i) (.int j) μ Q = Q (.bl (decide (i < j))) μ := by
  unfold gLt gD CLt
  simp only [vw_int, pur, py, PySem.W.alike, dp_int, PySem.W.dataLt_int, true_and, Nat.zero_le, ne_eq, reduceCtorEq, not_false_eq_true]
theorem gGt_int : gGt (.int i) (.int j) μ Q = Q (.bl (decide (j < i))) μ := by
  unfold gGt gD CLt
  simp only [vw_int, pur, py, PySem.W.alike, dp_int, PySem.W.dataLt_int, true_and, Nat.zero_le, ne_eq, reduceCtorEq, not_false_eq_true]
theorem gLe_int : gLe (.int i) (.int j) μ Q = Q (.bl (decide (i ≤ j))) μ := by
  unfold gLe gD CLt
  simp only [vw_int, pur, py, PySem.W.alike, dp_int, PySem.W.dataLt_int, true_and, Nat.zero_le, ne_eq, reduceCtorEq, not_false_eq_true, PySem.W.not_lt_int]
theorem gGe_int : gGe (.int i) (.int j) μ Q = Q (.bl (decide (j ≤ i))) μ := by
  unfold gGe gD CLt
  simp only [vw_int, pur, py, PySem.W.alike, dp_int, PySem.W.dataLt_int, true_and, Nat.zero_le, ne_eq, reduceCtorEq, not_false_eq_true, PySem.W.not_lt_int]
/-! numbers -/
theorem gAdd_int : gAdd (.int i) (.int j) μ Q = Q (.int (i + j)) μ := rfl
theorem gSub_int : gSub (.int i) (.int j) μ Q = Q (.int (i - j)) μ := rfl
theorem gMul_int : gMul (.int i) (.int j) μ Q = (CMul i j ∧ Q (.int (i * j)) μ) := rfl
theorem gMod_int : gMod (.int i) (.int j) μ Q = (0 < j ∧ Q (.int (i % j)) μ) := rfl
theorem gDiv_int : gDiv (.int i) (.int j) μ Q = (CDiv i j ∧ Q (.int (i / j)) μ) := rfl
theorem gPow_int : gPow (.int i) (.int j) μ Q = (CPow i j ∧ Q (.int (i ^ j.toNat)) μ) := rfl
theorem gNeg_int : gNeg (.int i) μ Q = Q (.int (-i)) μ := rfl
theorem gNot_bl : gNot (.bl p) μ Q = Q (.bl (!p)) μ := rfl
theorem gIs_bl : gIs (.bl p) (.bl q) μ Q = Q (.bl (decide (p = q))) μ := rfl
/-! items -/
theorem gIx_t {n : Nat} {d : D} (h : xs[n]? = some d) : gIx (.tup xs) (.int (n : Int)) μ Q = Q d μ := by
  unfold gIx
  simp only [vw_tup, atI_nat h]
theorem gIx_l {n : Nat} {d : D} (h : xs[n]? = some d) : gIx (.lst xs) (.int (n : Int)) μ Q = Q d μ := by
  unfold gIx
  simp only [vw_lst, atI_nat h]
theorem gIx_r {n : Nat} {d : D} {c : Addr} (hc : μ c = some (.lst xs)) (h : xs[n]? = some d) : gIx (.ref c) (.int (n : Int)) μ Q = Q d μ := by
  unfold gIx
  simp only [vw_ref hc, atI_nat h]
theorem gIx_t0 {x0 : D} {r : List D} : gIx (.tup (x0 :: r)) (.int 0) μ Q = Q x0 μ := gIx_t (n := 0) rfl
theorem gIx_t1 {x0 x1 : D} {r : List D} : gIx (.tup (x0 :: x1 :: r)) (.int 1) μ Q = Q x1 μ := gIx_t (n := 1) rfl
theorem gIx_t2 {x0 x1 x2 : D} {r : List D} : gIx (.tup (x0 :: x1 :: x2 :: r)) (.int 2) μ Q = Q x2 μ := gIx_t (n := 2) rfl
theorem gIx_t3 {x0 x1 x2 x3 : D} {r : List D} : gIx (.tup (x0 :: x1 :: x2 :: x3 :: r)) (.int 3) μ Q = Q x3 μ := gIx_t (n := 3) rfl
theorem gLen_l : gLen [.lst xs] μ Q = Q (.int xs.length) μ := rfl
theorem gLen_t : gLen [.tup xs] μ Q = Q (.int xs.length) μ := rfl
theorem gSl_l {l u : Option Int} : gSl (.lst xs) l u μ Q = Q (.lst (cutD xs l u)) μ := rfl
theorem gSl_sq {l u : Option Int} : gSl (.sq xs) l u μ Q = Q (.lst (cutD xs l u)) μ := rfl
theorem gSl_t {l u : Option Int} : gSl (.tup xs) l u μ Q = Q (.tup (cutD xs l u)) μ := rfl
theorem gRev_l : gRev (.lst xs) μ Q = Q (.lst xs.reverse) μ := rfl
theorem gRev_t : gRev (.tup xs) μ Q = Q (.tup xs.reverse) μ := rfl
theorem gRevM_l : gRevM (.lst xs) μ Q = (∀ p, μ p = none → Q (.ref p) (mup μ p (.lst xs.reverse))) := rfl
theorem gList_l : gList [.lst xs] μ Q = Q (.lst xs) μ := rfl
theorem gList_sq : gList [.sq xs] μ Q = Q (.lst xs) μ := rfl
theorem gList_t : gList [.tup xs] μ Q = Q (.lst xs) μ := rfl
theorem gMax2_int : gMax2 [.int i, .int j] μ Q = Q (.int (if j > i then j else i)) μ := rfl
theorem gRepr_l : gRepr [.lst xs] μ Q = (Shows (.lst xs) ∧ Q (.str (py (.lst xs)).shown) μ) := by unfold gRepr rowOf; simp only [vw_lst, Option.isSome_some, true_and]
theorem gRepr_t : gRepr [.tup xs] μ Q = (Shows (.tup xs) ∧ Q (.str (py (.tup xs)).shown) μ) := by unfold gRepr rowOf; simp only [vw_tup, Option.isSome_some, true_and]
theorem gPop_ref {c : Addr} {d : D} (h : μ c = some (.lst xs)) (hd : xs[xs.length - 1]? = some d) : gPop (.ref c) μ Q = Q d (mup μ c (.lst xs.dropLast)) := by unfold gPop; simp only [h, hd]
theorem gAppend_ref {c : Addr} {d : D} (h : μ c = some (.lst xs)) : gAppend (.ref c) [d] μ Q = (xs.length < sizeLine ∧ Q .non (mup μ c (.lst (xs ++ [d])))) := by unfold gAppend; simp only [h]
theorem gIx_r0 {c : Addr} {x0 : D} {r : List D} (h : μ c = some (.lst (x0 :: r))) : gIx (.ref c) (.int 0) μ Q = Q x0 μ := gIx_r (n := 0) h rfl
theorem gIx_r1 {c : Addr} {x0 x1 : D} {r : List D} (h : μ c = some (.lst (x0 :: x1 :: r))) : gIx (.ref c) (.int 1) μ Q = Q x1 μ := gIx_r (n := 1) h rfl
theorem gIx_r2 {c : Addr} {x0 x1 x2 : D} {r : List D} (h : μ c = some (.lst (x0 :: x1 :: x2 :: r))) : gIx (.ref c) (.int 2) μ Q = Q x2 μ := gIx_r (n := 2) h rfl
theorem gSet_2 {c : Addr} {x0 x1 x2 v : D} {R : Mu → Prop} (h : μ c = some (.lst [x0, x1, x2])) : gSetL (.ref c) (.int 2) v μ R = R (mup μ c (.lst [x0, x1, v])) := by unfold gSetL; simp only [h]; rfl
/-- xs != [] of a list of ints that changes -/
theorem gNe_nil {c : Addr} {ns : List Int} (h : μ c = some (.lst (ns.map D.int))) : gNe (.ref c) (.lst []) μ Q = Q (.bl (!ns.isEmpty)) μ := by
  unfold gNe gD CEq
  have e1 : ∀ ns : List Int, purL (ns.map D.int) = true := fun ns => by
    induction ns with
    | nil => rfl
    | cons n ns ih => simp only [List.map, purL, pur, ih, Bool.and_self]
  have e2 : PyData.eqv (.list (pyL (ns.map D.int))) (.list []) = ns.isEmpty := by
    cases ns with
    | nil => simp [pyL, PyData.eqv, PyData.eqvAll]
    | cons n ns => simp [pyL, PyData.eqv, PyData.eqvAll]
  have e3 := pyL_plain (ns.map D.int)
  simp only [vw_ref h, vw_lst, pur, purL, py, pyL, PyData.plain, PyData.plainAll, PyData.depth, PyData.depthAll, e1, e2, e3, true_and]
  simp
theorem sz {n : Nat} (h : n ≤ 10000) : n ≤ sizeLine := Nat.le_trans h (by decide)
end
/-- where a law begins -/
theorem up_law {K : PySem.W.Frag} {H : Hp} {a : Addr} {ns : List Int} {spd : SpD} {E : XK} (hS : SqL K H a (ns.map V.int)) (h : spd [.sq (ns.map .int)] (fun _ => none) (fun d _ => d = .bl true)) : up K spd [.ref a] H (fun v _ => v = .bl true) E := by
  refine ⟨[.sq (ns.map .int)], fun _ => none, fun d _ => d = .bl true, (fun _ _ e => nomatch e), .cons (.sq ?_ (DaL.ints ns)) .nil, h, ?_⟩
  · rcases hS with r | r
    · exact .inl ⟨rfl, r⟩
    · exact .inr r
  · intro v d H' μ' _ _ hv e
    subst e
    cases hv
    rfl
/-! ### the deck of a law: [cells, mixed, turns] -/
def Deck (μ : Mu) (d c : Addr) (n : Nat) : Prop := ∃ (cells : List Int) (m t : Int), μ d = some (.lst [.ref c, .int m, .int t]) ∧ μ c = some (.lst (cells.map .int)) ∧ d ≠ c ∧ cells.length ≤ 63 ∧ 0 ≤ m ∧ m < 2147483648 ∧ 0 ≤ t ∧ t ≤ n
/-- all but the deck is as it was -/
def But (d c : Addr) (μ μ' : Mu) : Prop := ∀ b, b ≠ d → b ≠ c → μ' b = μ b
theorem But.refl {d c : Addr} {μ : Mu} : But d c μ μ := fun _ _ _ => rfl
theorem But.trans {d c : Addr} {μ μ1 μ2 : Mu} (a : But d c μ μ1) (b : But d c μ1 μ2) : But d c μ μ2 := fun x h1 h2 => (b x h1 h2).trans (a x h1 h2)
def sp_deck : SpD := fun ds μ Q => ∃ ns : List Int, ds = [.sq (ns.map .int)] ∧ ns.length ≤ 63 ∧ ∀ μ' d c, μ d = none → μ c = none → Deck μ' d c 0 → But d c μ μ' → Q (.ref d) μ'
def sp_draw : SpD := fun ds μ Q => ∃ (d c : Addr) (many : Int) (n : Nat), ds = [.ref d, .int many] ∧ 0 < many ∧ many < 1073741824 ∧ Deck μ d c n ∧ n < 1000000000 ∧
  ∀ μ' i, 0 ≤ i → i < many → Deck μ' d c (n + 1) → But d c μ μ' → Q (.int i) μ'
/-- one of a list -/
def sp_pick : SpD := fun ds μ Q => ∃ (d c : Addr) (xs : List D) (n : Nat), ds = [.ref d, .lst xs] ∧ 0 < xs.length ∧ xs.length < 1073741824 ∧ Deck μ d c n ∧ n < 1000000000 ∧
  ∀ μ' x, x ∈ xs → Deck μ' d c (n + 1) → But d c μ μ' → Q x μ'
theorem Deck.more {μ : Mu} {d c : Addr} {n m : Nat} (h : Deck μ d c n) (l : n ≤ m) : Deck μ d c m := by
  obtain ⟨cells, x, t, a1, a2, a3, a4, a5, a6, a7, a8⟩ := h
  exact ⟨cells, x, t, a1, a2, a3, a4, a5, a6, a7, by omega⟩
end Dl

namespace K20
open PySem PySem.Spec PyProof.Rows L2 Dl
def topS (i : Nat) : Stmt := PySem.Challenge.pw_ownwake_k20_places_ahead.main.body.getD i (.Pass ⟨0, 0, 0, 0⟩)
abbrev s_precedes : Stmt := topS 3
theorem sc_precedes : FnScope ["path", "one", "other"] ["path", "one", "other"] (defScope s_precedes) := ⟨rfl, rfl, rfl, by decide +kernel, rfl, by decide +kernel, by decide +kernel⟩
abbrev s_is_ahead : Stmt := topS 4
theorem sc_is_ahead : FnScope ["path", "one", "other"] ["path", "one", "other"] (defScope s_is_ahead) := ⟨rfl, rfl, rfl, by decide +kernel, rfl, by decide +kernel, by decide +kernel⟩
abbrev s__law_deck : Stmt := topS 6
theorem sc__law_deck : FnScope ["_law_script", "_law_cells", "_law_mixed", "_law_cell"] ["_law_script"] (defScope s__law_deck) := ⟨rfl, rfl, rfl, by decide +kernel, rfl, by decide +kernel, by decide +kernel⟩
abbrev s__law_draw : Stmt := topS 7
theorem sc__law_draw : FnScope ["_law_deck_here", "_law_many", "_law_cell", "_law_mixed"] ["_law_deck_here", "_law_many"] (defScope s__law_draw) := ⟨rfl, rfl, rfl, by decide +kernel, rfl, by decide +kernel, by decide +kernel⟩
abbrev s__law_pick : Stmt := topS 8
theorem sc__law_pick : FnScope ["_law_deck_here", "_law_some"] ["_law_deck_here", "_law_some"] (defScope s__law_pick) := ⟨rfl, rfl, rfl, by decide +kernel, rfl, by decide +kernel, by decide +kernel⟩
abbrev s__law_row : Stmt := topS 9
theorem sc__law_row : FnScope ["_law_deck_here", "_law_great", "_law_values"] ["_law_deck_here"] (defScope s__law_row) := ⟨rfl, rfl, rfl, by decide +kernel, rfl, by decide +kernel, by decide +kernel⟩
abbrev s__law_near : Stmt := topS 10
theorem sc__law_near : FnScope ["_law_deck_here", "_law_row_here", "_law_number", "_law_value"] ["_law_deck_here", "_law_row_here"] (defScope s__law_near) := ⟨rfl, rfl, rfl, by decide +kernel, rfl, by decide +kernel, by decide +kernel⟩
abbrev s__law_paths : Stmt := topS 11
theorem sc__law_paths : FnScope ["_law_deck_here", "_law_column"] ["_law_deck_here"] (defScope s__law_paths) := ⟨rfl, rfl, rfl, by decide +kernel, rfl, by decide +kernel, by decide +kernel⟩
abbrev s__law_due : Stmt := topS 12
theorem sc__law_due : FnScope ["_law_road", "_law_near_here", "_law_far", "_law_sooner"] ["_law_road", "_law_near_here", "_law_far"] (defScope s__law_due) := ⟨rfl, rfl, rfl, by decide +kernel, rfl, by decide +kernel, by decide +kernel⟩
abbrev s__law_pair_right : Stmt := topS 13
theorem sc__law_pair_right : FnScope ["_law_road", "_law_near_here", "_law_far", "_law_first", "_law_second", "_law_due_here", "_law_told", "_law_is_unlike"] ["_law_road", "_law_near_here", "_law_far"] (defScope s__law_pair_right) := ⟨rfl, rfl, rfl, by decide +kernel, rfl, by decide +kernel, by decide +kernel⟩
abbrev s__law_chain_right : Stmt := topS 14
theorem sc__law_chain_right : FnScope ["_law_road", "_law_rows", "_law_first", "_law_second", "_law_third"] ["_law_road", "_law_rows"] (defScope s__law_chain_right) := ⟨rfl, rfl, rfl, by decide +kernel, rfl, by decide +kernel, by decide +kernel⟩
abbrev s_law : Stmt := topS 15
theorem sc_law : FnScope ["_law_script", "_law_deck_here", "_law_turn", "_law_near_here", "_law_far", "_law_third", "_law_road"] ["_law_script"] (defScope s_law) := ⟨rfl, rfl, rfl, by decide +kernel, rfl, by decide +kernel, by decide +kernel⟩
structure Txt (mg : Str → Option Value) : Prop where
  HEAP : ∃ t, mg "HEAP" = some (.str "heap" t)
  DOWN : ∃ t, mg "DOWN" = some (.str "down" t)
  len : mg "len" = none
  list : mg "list" = none
  max : mg "max" = none
  repr : mg "repr" = none
  range : mg "range" = none
section
variable {P : Program} {w : World} {K : PySem.W.Frag} {mg : Str → Option Value} {base : Heap} {f : Addr} {fd : FuncData}
local macro_rules | `(tactic| walk_at "dx") => `(tactic| try simp only [dSeq, dNext, dRet, dIf, dAsg, dPar, dName, dGTup, dGCons, dGNil, dOp, dVar, slot, dC, dB, dAndT, dOrT, dNotT, dIfE, dAnd, dOr, dTup, dLst, dCons, dNil, dCall, dCallK, dCB, dUn, dSl, dNo, dSome, startD, dM0,
  gEq_int, gNe_int, gEq_bl, gEq_str, gNe_str, gLt_int, gGt_int, gLe_int, gGe_int, gAdd_int, gSub_int, gMul_int, gMod_int, gDiv_int, gPow_int, gNeg_int, gNot_bl, gIs_bl, gIx_t0, gIx_t1, gIx_t2, gLen_l, gLen_t, gSl_l, gSl_sq, gSl_t, gRev_l, gRev_t, gRevM_l, gList_l, gList_sq, gList_t, gMax2_int, gRepr_l, gRepr_t,
  List.map, List.replicate, List.length, List.set, List.cons_append, List.nil_append, List.append, Nat.sub, Nat.reduceSub, Nat.reduceAdd, true_and, and_true, if_true, if_false, decide_true, decide_false, Bool.not_true, Bool.not_false, Bool.false_eq_true, reduceIte])
theorem n1 : (("up" : Str) = "down") = False := by simp only [eq_iff_iff, iff_false]; decide +kernel
theorem n2 : (("heap" : Str) = "down") = False := by simp only [eq_iff_iff, iff_false]; decide +kernel
theorem n3 : (("up" : Str) = "heap") = False := by simp only [eq_iff_iff, iff_false]; decide +kernel
theorem n4 : (("down" : Str) = "heap") = False := by simp only [eq_iff_iff, iff_false]; decide +kernel
theorem n5 : (("down" : Str) = "up") = False := by simp only [eq_iff_iff, iff_false]; decide +kernel
/-- 0 a heap, 1 up, 2 down -/
inductive Road : Nat → D → Prop
  | heap : Road 0 (.tup [.str "heap"])
  | up (c : D) : Road 1 (.tup [.str "up", c])
  | down (c : D) : Road 2 (.tup [.str "down", c])
def ahead (n : Nat) (a b c d : Int) : Bool := match n with
  | 0 => decide (a < c)
  | 1 => decide (b < d ∨ (b = d ∧ a < c))
  | _ => decide (d < b ∨ (d = b ∧ c < a))
/-! ### places -/
theorem lt1 {a c : Int} {μ : Mu} {Q : DQ} : gLt (.tup [.int a]) (.tup [.int c]) μ Q = Q (.bl (decide (a < c))) μ := by
  unfold gLt gD CLt
  have e : PySem.W.dataLt (.tuple [.int a]) (.tuple [.int c]) = decide (a < c) := by
    rw [PySem.W.dataLt_tuple]
    have := PySem.W.dataLt_ints [a] [c]
    unfold PySem.W.rowLt at this
    rw [List.map, List.map, List.map, List.map] at this
    rw [this]
    rw [decide_eq_decide]
    simp [List.cons_lt_cons_iff]
  simp [vw_tup, pur, purL, py, pyL, PySem.W.alike, PySem.W.alikeAll, e, PyData.depth, PyData.depthAll]
theorem gt1 {a c : Int} {μ : Mu} {Q : DQ} : gGt (.tup [.int a]) (.tup [.int c]) μ Q = Q (.bl (decide (c < a))) μ := by
  unfold gGt gD CLt
  have e : PySem.W.dataLt (.tuple [.int c]) (.tuple [.int a]) = decide (c < a) := by
    rw [PySem.W.dataLt_tuple]
    have := PySem.W.dataLt_ints [c] [a]
    unfold PySem.W.rowLt at this
    rw [List.map, List.map, List.map, List.map] at this
    rw [this]
    rw [decide_eq_decide]
    simp [List.cons_lt_cons_iff]
  simp [vw_tup, pur, purL, py, pyL, PySem.W.alike, PySem.W.alikeAll, e, PyData.depth, PyData.depthAll]
theorem lt2 {a b c d : Int} {μ : Mu} {Q : DQ} : gLt (.tup [.int a, .int b]) (.tup [.int c, .int d]) μ Q = Q (.bl (decide (a < c ∨ (a = c ∧ b < d)))) μ := by
  unfold gLt gD CLt
  simp [vw_tup, pur, purL, py, pyL, PySem.W.alike, PySem.W.alikeAll, PySem.W.dataLt_ii, PyData.depth, PyData.depthAll]
theorem gt2 {a b c d : Int} {μ : Mu} {Q : DQ} : gGt (.tup [.int a, .int b]) (.tup [.int c, .int d]) μ Q = Q (.bl (decide (c < a ∨ (c = a ∧ d < b)))) μ := by
  unfold gGt gD CLt
  simp [vw_tup, pur, purL, py, pyL, PySem.W.alike, PySem.W.alikeAll, PySem.W.dataLt_ii, PyData.depth, PyData.depthAll]
def sp_precedes : SpD := fun ds μ Q => ∃ (n : Nat) (r x y : D), ds = [r, x, y] ∧ Road n r ∧ (if n = 2 then gGt x y μ Q else gLt x y μ Q)
theorem ok_precedes (T : Txt mg) (F : Fun K "precedes" "precedes" s_precedes f fd) : FnG P w K mg base CX0 1 f fd ["path", "one", "other"] (up K sp_precedes) := by
  refine okD F sc_precedes (fun ⟨n, r, x, y, e, _⟩ => by rw [e]; rfl) ?_
  rintro X ⟨cdv, A, outer, s, H, E, rfl⟩ hgu hr
  refine ⟨_, (ds_one (ds_ret (pd_if (pt_eq hr (pd_at (pd_var 0) pd_int) (pd_gs T.DOWN)) (pd_gt hr (pd_var 1) (pd_var 2)) (pd_lt hr (pd_var 1) (pd_var 2))))), ?_⟩
  rintro ds μ Q ⟨n, r, x, y, rfl, hn, q⟩
  cases hn <;> (walk_at "dx"; (try simp only [n1, n2, decide_true, decide_false, if_true, if_false, Bool.false_eq_true]); simpa using q)
def sp_is_ahead : SpD := fun ds μ Q => ∃ (n : Nat) (r : D) (a b c d : Int), ds = [r, .tup [.int a, .int b], .tup [.int c, .int d]] ∧ Road n r ∧ Q (.bl (ahead n a b c d)) μ
theorem cut1 {x y : D} : cutD [x, y] none (some 1) = [x] := rfl
theorem ok_is_ahead (T : Txt mg) {f1 fd1 ps1} (c_precedes : Cl P w K mg base 1 "precedes" f1 fd1 ps1 sp_precedes) (F : Fun K "is_ahead" "is_ahead" s_is_ahead f fd) : FnG P w K mg base CX0 2 f fd ["path", "one", "other"] (up K sp_is_ahead) := by
  refine okD F sc_is_ahead (fun ⟨n, r, a, b, c, d, e, _⟩ => by rw [e]; rfl) ?_
  rintro X ⟨cdv, A, outer, s, H, E, rfl⟩ hgu hr
  refine ⟨_, (ds_cons (ds_if (pt_eq hr (pd_at (pd_var 0) pd_int) (pd_gs T.HEAP)) (ds_one (ds_ret (pd_call c_precedes hr hgu (pda_cons (pd_var 0) (pda_cons (pd_slice (pd_var 1) pdo_none (pdo_some pd_int)) (pda_cons (pd_slice (pd_var 2) pdo_none (pdo_some pd_int)) pda_nil)))))) ds_nil)
      (ds_one (ds_ret (pd_call c_precedes hr hgu (pda_cons (pd_var 0) (pda_cons (pd_rev (pd_var 1)) (pda_cons (pd_rev (pd_var 2)) pda_nil))))))), ?_⟩
  rintro ds μ Q ⟨n, r, a, b, c, d, rfl, hn, q⟩
  cases hn
  · walk_at "dx"
    refine ⟨0, _, _, _, rfl, .heap, ?_⟩
    simp only [cut1, lt1, if_false, Nat.reduceEqDiff]
    exact q
  · walk_at "dx"
    simp only [n3, decide_false, if_false, Bool.false_eq_true]
    refine ⟨1, _, _, _, rfl, .up _, ?_⟩
    simp only [List.reverse_cons, List.reverse_nil, List.nil_append, List.cons_append, lt2, if_false, Nat.reduceEqDiff]
    exact q
  · walk_at "dx"
    simp only [n4, decide_false, if_false, Bool.false_eq_true]
    refine ⟨2, _, _, _, rfl, .down _, ?_⟩
    simp only [List.reverse_cons, List.reverse_nil, List.nil_append, List.cons_append, gt2, if_true]
    exact q
/-! ### the deck -/
theorem cut63 {ns : List Int} (h : ns.length ≤ 63) : cutD (ns.map D.int) none (some 63) = ns.map D.int := by
  have e : HT.sIx (ns.map D.int).length (ns.map D.int).length (some 63) = min 63 (ns.map D.int).length := HT.sIx_nat _ _ 63
  unfold Dl.cutD
  rw [e, HT.sIx_none, List.drop_zero, Nat.sub_zero, List.length_map, Nat.min_eq_right h, List.take_of_length_le (by rw [List.length_map]; exact Nat.le_refl _)]
theorem ok_deck (T : Txt mg) (F : Fun K "_law_deck" "_law_deck" s__law_deck f fd) : FnG P w K mg base CX0 1 f fd ["_law_script"] (up K sp_deck) := by
  refine okD F sc__law_deck (fun ⟨ns, e, _⟩ => by rw [e]; rfl) ?_
  rintro X ⟨cdv, A, outer, s, H, E, rfl⟩ hgu hr
  refine ⟨_, (ds_cons (ds_par (i := 1) (j := 2) rfl sc__law_deck.nd (pda_cons (pd_list T.list (by decide +kernel) (pd_slice (pd_var 0) pdo_none (pdo_some pd_int))) (pda_cons pd_int pda_nil)))
      (ds_cons (ds_for PassesOwn.never rfl (di_list (pd_var 1)) (dg_name (i := 3) sc__law_deck.nd) (ds_one (ds_set (i := 2) sc__law_deck.nd (pd_mod (pd_add (pd_add (pd_mul (pd_var 2) pd_int) (pd_mod (pd_var 3) pd_int)) pd_int) pd_int))))
      (ds_one (ds_ret (pd_lstM (pda_cons (pd_revM (pd_var 1)) (pda_cons (pd_var 2) (pda_cons pd_int pda_nil)))))))), ?_⟩
  rintro ds μ Q ⟨ns, rfl, hl, q⟩
  walk_at "dx"
  rw [cut63 hl]
  simp only [dFor, dRow, dVar, slot]
  refine ⟨fun i ρ μ1 => μ1 = μ ∧ ∃ (m : Int) (v : Option D), ρ = [some (.sq (ns.map .int)), some (.lst (ns.map .int)), some (.int m), v] ∧ 0 ≤ m ∧ m < 2147483648, ⟨rfl, 61001, none, rfl, by decide, by decide⟩, fun _ _ _ _ => trivial, ?_, ?_⟩
  · rintro i x ρ μ1 hx ⟨rfl, m, v, rfl, h0, h1⟩
    rw [List.getElem?_map] at hx
    obtain ⟨z, _, rfl⟩ := Option.map_eq_some_iff.mp hx
    walk_at "dx"
    refine ⟨.inr ⟨by decide, by decide⟩, by decide, by decide, _, _, rfl, Int.emod_nonneg _ (by decide), ?_⟩
    have := Int.emod_lt_of_pos (m * 48271 + z % 2147483629 + 17) (show (0 : Int) < 2147483587 by decide)
    omega
  · rintro ρ μ1 ⟨rfl, m, v, rfl, h0, h1⟩
    simp only [dRet, dLstM, dCons, dNil, dUn, dVar, slot, dC, gRevM_l]
    refine fun c hc => ⟨by show 3 ≤ sizeLine; decide, fun d hd => ?_⟩
    have ne : d ≠ c := fun e => by rw [e, mup_same] at hd; cases hd
    rw [mup_ne ne] at hd
    refine q _ d c hd hc ⟨ns.reverse, m, 0, mup_same, ?_, ne, ?_, h0, h1, by decide, by decide⟩ fun b h1 h2 => ?_
    · rw [mup_ne ne.symm, mup_same, List.map_reverse]
    · rw [List.length_reverse]; exact hl
    · rw [mup_ne h1, mup_ne h2]
theorem sq_lt {x : Int} : CMul (x % 2147483647) (x % 2147483647) := by
  have h1 := Int.emod_nonneg x (show (2147483647 : Int) ≠ 0 by decide)
  have h2 := Int.emod_lt_of_pos x (show (0 : Int) < 2147483647 by decide)
  exact .inl ⟨by omega, by omega⟩
theorem getLast_ints {cells : List Int} (h : cells ≠ []) : ∃ z, (cells.map D.int)[(cells.map D.int).length - 1]? = some (.int z) ∧ (cells.map D.int).dropLast = (cells.dropLast).map D.int := by
  refine ⟨cells.getLast h, ?_, by rw [List.map_dropLast]⟩
  rw [List.length_map, List.getElem?_map, ← List.getLast?_eq_getElem?, List.getLast?_eq_some_getLast h]
  rfl
theorem ok_draw (T : Txt mg) (F : Fun K "_law_draw" "_law_draw" s__law_draw f fd) : FnG P w K mg base CX0 1 f fd ["_law_deck_here", "_law_many"] (up K sp_draw) := by
  refine okD F sc__law_draw (fun ⟨d, c, m, n, e, _⟩ => by rw [e]; rfl) ?_
  rintro X ⟨cdv, A, outer, s, H, E, rfl⟩ hgu hr
  refine ⟨_, (ds_cons (ds_asg (pd_add (pd_at (pd_var 0) pd_int) pd_int) (dg_sub (pd_var 0) pd_int))
      (ds_cons (ds_set (i := 2) sc__law_draw.nd (pd_at (pd_var 0) pd_int))
      (ds_cons (ds_if (pt_ne hr (pd_at (pd_var 0) pd_int) (pd_lst pda_nil)) (ds_cons (ds_set (i := 2) sc__law_draw.nd (pd_pop (pd_at (pd_var 0) pd_int)))
      (ds_cons (ds_if (pt_ge hr (pd_var 2) (pd_pow pd_int pd_int)) (ds_cons (ds_expr (pd_append (pd_at (pd_var 0) pd_int) (pda_cons (pd_div (pd_var 2) (pd_var 1)) pda_nil)))
      (ds_one (ds_ret (pd_mod (pd_var 2) (pd_var 1))))) ds_nil)
      (ds_one (ds_set (i := 2) sc__law_draw.nd (pd_add (pd_var 2) (pd_at (pd_var 0) pd_int)))))) ds_nil)
      (ds_cons (ds_set (i := 3) sc__law_draw.nd (pd_mod (pd_mul (pd_add (pd_add (pd_mod (pd_var 2) pd_int) (pd_mul (pd_mul pd_int (pd_at (pd_var 0) pd_int)) (pd_at (pd_var 0) pd_int))) pd_int) pd_int) pd_int))
      (ds_cons (ds_set (i := 3) sc__law_draw.nd (pd_mod (pd_add (pd_add (pd_mul (pd_var 3) (pd_var 3)) (pd_mul pd_int (pd_at (pd_var 0) pd_int))) pd_int) pd_int))
      (ds_one (ds_ret (pd_mod (pd_div (pd_mod (pd_mul (pd_var 3) pd_int) pd_int) pd_int) (pd_var 1))))))))), ?_⟩
  rintro ds μ Q ⟨d, c, many, n, rfl, h0, h1, ⟨cells, m, t, hd, hc, ne, hl, m0, m1, t0, t1⟩, hn, q⟩
  walk_at "dx"
  simp only [dSub, gIx_r2 hd, gSet_2 hd, dOp, dVar, dC, slot, gAdd_int]
  have hd1 : (mup μ d (.lst [.ref c, .int m, .int (t + 1)])) d = some (.lst [.ref c, .int m, .int (t + 1)]) := mup_same
  have hc1 : (mup μ d (.lst [.ref c, .int m, .int (t + 1)])) c = some (.lst (cells.map .int)) := (mup_ne ne.symm).trans hc
  have b1 : But d c μ (mup μ d (.lst [.ref c, .int m, .int (t + 1)])) := fun b h1 h2 => mup_ne h1
  revert hd1 hc1 b1
  generalize mup μ d (.lst [.ref c, .int m, .int (t + 1)]) = μ1
  intro hd1 hc1 b1
  simp only [dSeq, dNext, dIf, dAsg, dName, dOp, dVar, slot, dC, dB, dLst, dNil, gIx_r1 hd1, gIx_r0 hd1, List.set, gNe_nil hc1, List.length, Nat.zero_le, true_and]
  by_cases hz : cells = []
  · subst hz
    simp only [List.isEmpty_nil, Bool.not_true, Bool.false_eq_true, if_false]
    simp only [dRet, gIx_r2 hd1, gMul_int, gMod_int, gAdd_int, gDiv_int, dOp, dVar, slot, dC, List.set]
    refine ⟨by decide, .inl ⟨by decide, by decide⟩, .inr ⟨by omega, by omega⟩, .inr ⟨by decide, by decide⟩, by decide, sq_lt, .inl ⟨by decide, by decide⟩, by decide, .inr ⟨by decide, by decide⟩, by decide, ⟨by decide, by decide⟩, h0, ?_⟩
    exact q _ _ (Int.emod_nonneg _ (by omega)) (Int.emod_lt_of_pos _ h0) ⟨[], m, t + 1, hd1, hc1, ne, hl, m0, m1, by omega, by omega⟩ b1
  · obtain ⟨z, ez, ed⟩ := getLast_ints hz
    have e1 : (!cells.isEmpty) = true := by cases cells with | nil => exact absurd rfl hz | cons _ _ => rfl
    simp only [e1, if_true, dM0, dOp, dVar, slot, dC, List.set, gIx_r0 hd1, gPop_ref hc1 ez, ed, gGe_int, gPow_int]
    have hd2 : (mup μ1 c (.lst (cells.dropLast.map .int))) d = some (.lst [.ref c, .int m, .int (t + 1)]) := (mup_ne ne).trans hd1
    have hc2 : (mup μ1 c (.lst (cells.dropLast.map .int))) c = some (.lst (cells.dropLast.map .int)) := mup_same
    have b2 : But d c μ (mup μ1 c (.lst (cells.dropLast.map .int))) := fun b h1 h2 => (mup_ne h2).trans (b1 b h1 h2)
    have l2 : cells.dropLast.length + 1 = cells.length := by
      rw [List.length_dropLast]
      have : 0 < cells.length := List.length_pos_iff.mpr hz
      omega
    revert hd2 hc2 b2
    generalize mup μ1 c (.lst (cells.dropLast.map .int)) = μ2
    intro hd2 hc2 b2
    refine ⟨⟨by decide, by decide, by decide⟩, ?_⟩
    by_cases hb : (10 : Int) ^ (18 : Int).toNat ≤ z
    · simp only [hb, decide_true, if_true, dDrop, dM, dOp, dVar, slot, dC, dCons, dNil, gIx_r0 hd2, gDiv_int, gAppend_ref hc2, dRet, gMod_int]
      refine ⟨⟨c, _, rfl, hc2⟩, ⟨h0, h1⟩, Nat.lt_of_le_of_lt (show _ ≤ 63 by rw [List.length_map]; omega) (by decide), h0, ?_⟩
      refine q _ _ (Int.emod_nonneg _ (by omega)) (Int.emod_lt_of_pos _ h0) ⟨cells.dropLast ++ [z / many], m, t + 1, (mup_ne ne).trans hd2, ?_, ne, ?_, m0, m1, by omega, by omega⟩ fun b g1 g2 => (mup_ne g2).trans (b2 b g1 g2)
      · rw [mup_same, List.map_append]; rfl
      · rw [List.length_append]; show _ + 1 ≤ 63; omega
    · simp only [hb, decide_false, Bool.false_eq_true, if_false, dRet, gIx_r2 hd2, gIx_r1 hd2, gMul_int, gMod_int, gAdd_int, gDiv_int, dOp, dVar, slot, dC, List.set]
      refine ⟨by decide, .inl ⟨by decide, by decide⟩, .inr ⟨by omega, by omega⟩, .inr ⟨by decide, by decide⟩, by decide, sq_lt, .inl ⟨by decide, by decide⟩, by decide, .inr ⟨by decide, by decide⟩, by decide, ⟨by decide, by decide⟩, h0, ?_⟩
      exact q _ _ (Int.emod_nonneg _ (by omega)) (Int.emod_lt_of_pos _ h0) ⟨cells.dropLast, m, t + 1, hd2, hc2, ne, by omega, m0, m1, by omega, by omega⟩ b2
theorem ok_pick (T : Txt mg) {f1 fd1 ps1} (c__law_draw : Cl P w K mg base 1 "_law_draw" f1 fd1 ps1 sp_draw) (F : Fun K "_law_pick" "_law_pick" s__law_pick f fd) : FnG P w K mg base CX0 2 f fd ["_law_deck_here", "_law_some"] (up K sp_pick) := by
  refine okD F sc__law_pick (fun ⟨d, c, m, n, e, _⟩ => by rw [e]; rfl) ?_
  rintro X ⟨cdv, A, outer, s, H, E, rfl⟩ hgu hr
  refine ⟨_, (ds_one (ds_ret (pd_at (pd_var 1) (pd_call c__law_draw hr hgu (pda_cons (pd_var 0) (pda_cons (pd_len T.len (pd_var 1)) pda_nil)))))), ?_⟩
  rintro ds μ Q ⟨d, c, xs, n, rfl, h0, h1, hd, hn, q⟩
  walk_at "dx"
  refine ⟨d, c, _, n, rfl, by omega, by omega, hd, hn, fun μ1 i i0 i1 hd1 b1 => ?_⟩
  obtain ⟨k, rfl⟩ := Int.eq_ofNat_of_zero_le i0
  have hk : k < xs.length := by omega
  rw [gIx_l (List.getElem?_eq_getElem hk)]
  exact q _ _ (List.getElem_mem hk) hd1 b1
def allInt : List D → Bool
  | [] => true
  | .int _ :: r => allInt r
  | _ => false
theorem of_allInt : ∀ {xs : List D} {x : D}, allInt xs = true → x ∈ xs → ∃ a, x = .int a
  | [], _, _, h => by simp at h
  | .int a :: r, x, h, hx => by
    rcases List.mem_cons.mp hx with e | e
    · exact ⟨a, e⟩
    · exact of_allInt (xs := r) h e
def sp_row : SpD := fun ds μ Q => ∃ (d c : Addr) (n : Nat), ds = [.ref d] ∧ Deck μ d c n ∧ n < 900000000 ∧ ∀ μ' a b, Deck μ' d c (n + 5) → But d c μ μ' → Q (.tup [.int a, .int b]) μ'
theorem ok_row (T : Txt mg) {f1 fd1 ps1 f2 fd2 ps2} (c__law_draw : Cl P w K mg base 1 "_law_draw" f1 fd1 ps1 sp_draw) (c__law_pick : Cl P w K mg base 2 "_law_pick" f2 fd2 ps2 sp_pick) (F : Fun K "_law_row" "_law_row" s__law_row f fd) :
    FnG P w K mg base CX0 3 f fd ["_law_deck_here"] (up K sp_row) := by
  refine okD F sc__law_row (fun ⟨d, c, n, e, _⟩ => by rw [e]; rfl) ?_
  rintro X ⟨cdv, A, outer, s, H, E, rfl⟩ hgu hr
  refine ⟨_, (ds_cons (ds_set (i := 1) sc__law_row.nd (pd_pow pd_int pd_int))
      (ds_cons (ds_set (i := 2) sc__law_row.nd (pd_lst (pda_cons pd_int (pda_cons pd_int (pda_cons pd_int (pda_cons (pd_neg pd_int) (pda_cons pd_int (pda_cons (pd_call c__law_draw hr hgu (pda_cons (pd_var 0) (pda_cons pd_int pda_nil))) (pda_cons (pd_var 1) (pda_cons (pd_neg (pd_var 1)) (pda_cons (pd_sub (pd_var 1) pd_int) (pda_cons (pd_call c__law_draw hr hgu (pda_cons (pd_var 0) (pda_cons (pd_var 1) pda_nil))) pda_nil))))))))))))
      (ds_one (ds_ret (pd_tup (pda_cons (pd_call c__law_pick hr hgu (pda_cons (pd_var 0) (pda_cons (pd_lst (pda_cons pd_int (pda_cons pd_int (pda_cons pd_int (pda_cons pd_int (pda_cons (pd_call c__law_draw hr hgu (pda_cons (pd_var 0) (pda_cons pd_int pda_nil))) (pda_cons (pd_var 1) (pda_cons (pd_sub (pd_var 1) pd_int) pda_nil)))))))) pda_nil))) (pda_cons (pd_call c__law_pick hr hgu (pda_cons (pd_var 0) (pda_cons (pd_var 2) pda_nil))) pda_nil))))))), ?_⟩
  rintro ds μ Q ⟨d, c, n, rfl, hd, hn, q⟩
  walk_at "dx"
  refine ⟨⟨by decide, by decide, by decide⟩, ?_⟩
  refine ⟨d, c, _, n, rfl, by decide, by decide, hd, by omega, fun μ1 i1 _ _ hd1 b1 => ?_⟩
  walk_at "dx"
  refine ⟨d, c, _, n + 1, rfl, by decide, by decide, hd1, by omega, fun μ2 i2 _ _ hd2 b2 => ?_⟩
  walk_at "dx"
  refine ⟨sz (by decide), ?_⟩
  refine ⟨d, c, _, n + 2, rfl, by decide, by decide, hd2, by omega, fun μ3 i3 _ _ hd3 b3 => ?_⟩
  walk_at "dx"
  refine ⟨sz (by decide), ?_⟩
  refine ⟨d, c, _, n + 3, rfl, (by simp), (by simp), hd3, by omega, fun μ4 x hx hd4 b4 => ?_⟩
  obtain ⟨a, rfl⟩ := of_allInt rfl hx
  walk_at "dx"
  refine ⟨d, c, _, n + 4, rfl, (by simp), (by simp), hd4, by omega, fun μ5 y hy hd5 b5 => ?_⟩
  obtain ⟨b, rfl⟩ := of_allInt rfl hy
  exact ⟨sz (by decide), q _ _ _ hd5 ((((b1.trans b2).trans b3).trans b4).trans b5)⟩
def sp_near : SpD := fun ds μ Q => ∃ (d c : Addr) (n : Nat) (a b : Int), ds = [.ref d, .tup [.int a, .int b]] ∧ Deck μ d c n ∧ n < 900000000 ∧ ∀ μ' a b, Deck μ' d c (n + 2) → But d c μ μ' → Q (.tup [.int a, .int b]) μ'
theorem ok_near (T : Txt mg) {f1 fd1 ps1} (c__law_draw : Cl P w K mg base 1 "_law_draw" f1 fd1 ps1 sp_draw) (F : Fun K "_law_near" "_law_near" s__law_near f fd) : FnG P w K mg base CX0 2 f fd ["_law_deck_here", "_law_row_here"] (up K sp_near) := by
  refine okD F sc__law_near (fun ⟨d, c, n, a, b, e, _⟩ => by rw [e]; rfl) ?_
  rintro X ⟨cdv, A, outer, s, H, E, rfl⟩ hgu hr
  refine ⟨_, (ds_cons (ds_asg (pd_var 1) (dg_tup rfl (dgs_cons (dg_name (i := 2) sc__law_near.nd) (dgs_cons (dg_name (i := 3) sc__law_near.nd) dgs_nil))))
      (ds_one (ds_ret (pd_tup (pda_cons (pd_max2 rfl T.max (by decide +kernel) (pda_cons pd_int (pda_cons (pd_sub (pd_add (pd_var 2) (pd_call c__law_draw hr hgu (pda_cons (pd_var 0) (pda_cons pd_int pda_nil)))) pd_int) pda_nil))) (pda_cons (pd_sub (pd_add (pd_var 3) (pd_call c__law_draw hr hgu (pda_cons (pd_var 0) (pda_cons pd_int pda_nil)))) pd_int) pda_nil)))))), ?_⟩
  rintro ds μ Q ⟨d, c, n, a, b, rfl, hd, hn, q⟩
  walk_at "dx"
  refine ⟨d, c, _, n, rfl, by decide, by decide, hd, by omega, fun μ1 i1 _ _ hd1 b1 => ?_⟩
  walk_at "dx"
  refine ⟨d, c, _, n + 1, rfl, by decide, by decide, hd1, by omega, fun μ2 i2 _ _ hd2 b2 => ?_⟩
  walk_at "dx"
  exact ⟨sz (by decide), q _ _ _ hd2 (b1.trans b2)⟩
def sp_paths : SpD := fun ds μ Q => ∃ (d c : Addr) (n : Nat), ds = [.ref d] ∧ Deck μ d c n ∧ n < 900000000 ∧ ∀ μ' x, Deck μ' d c (n + 1) → But d c μ μ' → Q (.lst [.tup [.str "heap"], .tup [.str "up", x], .tup [.str "down", x]]) μ'
theorem ok_paths (T : Txt mg) {f2 fd2 ps2} (c__law_pick : Cl P w K mg base 2 "_law_pick" f2 fd2 ps2 sp_pick) (F : Fun K "_law_paths" "_law_paths" s__law_paths f fd) : FnG P w K mg base CX0 3 f fd ["_law_deck_here"] (up K sp_paths) := by
  refine okD F sc__law_paths (fun ⟨d, c, n, e, _⟩ => by rw [e]; rfl) ?_
  rintro X ⟨cdv, A, outer, s, H, E, rfl⟩ hgu hr
  refine ⟨_, (ds_cons (ds_set (i := 1) sc__law_paths.nd (pd_call c__law_pick hr hgu (pda_cons (pd_var 0) (pda_cons (pd_lst (pda_cons pd_str (pda_cons pd_str (pda_cons pd_str (pda_cons pd_str (pda_cons pd_int (pda_cons pd_int (pda_cons pd_int pda_nil)))))))) pda_nil))))
      (ds_one (ds_ret (pd_lst (pda_cons (pd_tup (pda_cons pd_str pda_nil)) (pda_cons (pd_tup (pda_cons pd_str (pda_cons (pd_var 1) pda_nil))) (pda_cons (pd_tup (pda_cons pd_str (pda_cons (pd_var 1) pda_nil))) pda_nil))))))), ?_⟩
  rintro ds μ Q ⟨d, c, n, rfl, hd, hn, q⟩
  walk_at "dx"
  refine ⟨sz (by decide), ?_⟩
  refine ⟨d, c, _, n, rfl, by decide, by decide, hd, by omega, fun μ1 x _ hd1 b1 => ?_⟩
  walk_at "dx"
  exact ⟨sz (by decide), sz (by decide), sz (by decide), sz (by decide), q _ _ hd1 b1⟩
theorem due1 {a b c d : Int} {μ : Mu} {Q : DQ} (q : Q (.bl (ahead 1 a b c d)) μ) : if (!decide (b = d)) = true then Q (.bl (decide (decide (b < d) = true))) μ else
    match D.bl !decide (a = c) with
    | .bl true => Q (.bl (decide (decide (a < c) = true))) μ
    | .bl false => Q (.bl false) μ
    | _ => False := by
  unfold ahead at q
  by_cases h : b = d
  · subst h
    simp only [decide_true, Bool.not_true, Bool.false_eq_true, if_false, Bool.decide_eq_true]
    by_cases h2 : a = c
    · subst h2
      simpa using q
    · simpa [h2] using q
  · simpa [h] using q
theorem due2 {a b c d : Int} {μ : Mu} {Q : DQ} (q : Q (.bl (ahead 2 a b c d)) μ) : if (!decide (b = d)) = true then Q (.bl (decide (decide (b < d) = false))) μ else
    match D.bl !decide (a = c) with
    | .bl true => Q (.bl (decide (decide (a < c) = false))) μ
    | .bl false => Q (.bl false) μ
    | _ => False := by
  unfold ahead at q
  by_cases h : b = d
  · subst h
    simp only [decide_true, Bool.not_true, Bool.false_eq_true, if_false]
    by_cases h2 : a = c
    · subst h2
      simpa using q
    · have e : decide (decide (a < c) = false) = decide (c < a) := by rw [decide_eq_decide, decide_eq_false_iff_not]; omega
      simp only [h2, decide_false, Bool.not_false, e]
      simpa using q
  · have e : decide (decide (b < d) = false) = decide (d < b ∨ d = b ∧ c < a) := by rw [decide_eq_decide, decide_eq_false_iff_not]; omega
    simp only [h, decide_false, Bool.not_false, if_true, e]
    exact q
def sp_due : SpD := fun ds μ Q => ∃ (n : Nat) (r : D) (a b c d : Int), ds = [r, .tup [.int a, .int b], .tup [.int c, .int d]] ∧ Road n r ∧ Q (.bl (ahead n a b c d)) μ
theorem ok_due (T : Txt mg) (F : Fun K "_law_due" "_law_due" s__law_due f fd) : FnG P w K mg base CX0 1 f fd ["_law_road", "_law_near_here", "_law_far"] (up K sp_due) := by
  refine okD F sc__law_due (fun ⟨n, r, a, b, c, d, e, _⟩ => by rw [e]; rfl) ?_
  rintro X ⟨cdv, A, outer, s, H, E, rfl⟩ hgu hr
  refine ⟨_, (ds_cons (ds_if (pt_eq hr (pd_at (pd_var 0) pd_int) pd_str) (ds_one (ds_ret (pd_lt hr (pd_at (pd_var 1) pd_int) (pd_at (pd_var 2) pd_int)))) ds_nil)
      (ds_cons (ds_set (i := 3) sc__law_due.nd (pd_eq hr (pd_at (pd_var 0) pd_int) pd_str))
      (ds_cons (ds_if (pt_ne hr (pd_at (pd_var 1) pd_int) (pd_at (pd_var 2) pd_int)) (ds_one (ds_ret (pd_eq hr (pd_lt hr (pd_at (pd_var 1) pd_int) (pd_at (pd_var 2) pd_int)) (pd_var 3)))) ds_nil)
      (ds_one (ds_ret (pd_and (pd_ne hr (pd_at (pd_var 1) pd_int) (pd_at (pd_var 2) pd_int)) (pd_one (pd_eq hr (pd_lt hr (pd_at (pd_var 1) pd_int) (pd_at (pd_var 2) pd_int)) (pd_var 3))))))))), ?_⟩
  rintro ds μ Q ⟨n, r, a, b, c, d, rfl, hn, q⟩
  cases hn
  · walk_at "dx"
    exact q
  · walk_at "dx"
    simp only [n3, decide_false, if_false, Bool.false_eq_true, decide_true]
    exact due1 q
  · walk_at "dx"
    simp only [n4, n5, decide_false, if_false, Bool.false_eq_true, decide_true]
    exact due2 q
/-! ### pairs -/
theorem shows2 {p q : Bool} : Shows (.lst [.bl p, .bl q]) := by
  cases p <;> cases q <;> exact ⟨by decide +kernel, by decide +kernel, by decide +kernel, by decide +kernel⟩
def g3 {α : Type} : List α → List α → List α
  | [], [a, b, c] => [c, b, a]
  | _, _ => []
theorem g3_len {α : Type} {us ws : List α} (h : (g3 us ws).length = 3) : us = [] ∧ ∃ a b c, ws = [a, b, c] := by
  unfold g3 at h
  split at h
  · exact ⟨rfl, _, _, _, rfl⟩
  · cases h
theorem kb_ahead {fd : FuncData} (F : Fun K "is_ahead" "is_ahead" s_is_ahead f fd) : KBinds K fd ["path", "one", "other"] ["other", "one", "path"] g3 g3 := by
  obtain ⟨oc, od, kV, doc, pm, an, cdv, ct, osl, rfl, lk, hcd⟩ := F.ex
  refine ⟨fun s us ws _ h => ?_, fun {vs us zs ws} rv rz => ?_⟩
  · obtain ⟨rfl, a, b, c, rfl⟩ := g3_len h
    exact .of_eq rfl
  · match rv, rz with
    | .nil, .cons r1 (.cons r2 (.cons r3 .nil)) => exact .cons r3 (.cons r2 (.cons r1 .nil))
    | .nil, .nil => exact .nil
    | .nil, .cons r1 .nil => exact .nil
    | .nil, .cons r1 (.cons r2 .nil) => exact .nil
    | .nil, .cons r1 (.cons r2 (.cons r3 (.cons r4 rr))) => exact .nil
    | .cons a b, _ => exact .nil
def g3D : List D → List D
  | [a, b, c] => [c, b, a]
  | _ => []
theorem hD3 {μ : Mu} {H : Hp} {vs : List V} {ds : List D} (l : DaL K μ H vs ds) : DaL K μ H (g3 [] vs) (g3D ds) := by
  match l with
  | .cons r1 (.cons r2 (.cons r3 .nil)) => exact .cons r3 (.cons r2 (.cons r1 .nil))
  | .nil => exact .nil
  | .cons r1 .nil => exact .nil
  | .cons r1 (.cons r2 .nil) => exact .nil
  | .cons r1 (.cons r2 (.cons r3 (.cons r4 rr))) => exact .nil
theorem g3D_ {a b c : D} : g3D [a, b, c] = [c, b, a] := rfl
theorem tail_ok {n : Nat} {r : D} {a b c d : Int} {u : Bool} {μ : Mu} {Q : DQ} (hn : Road n r) (hu : (ahead n a b c d || ahead n c d a b) = u) (q : Q (.bl true) μ) :
    sp_is_ahead [r, .tup [.int a, .int b], .tup [.int c, .int d]] μ (fun x μ1 => match x with
      | .bl true => Q (.bl (decide (true = u))) μ1
      | .bl false => sp_is_ahead [r, .tup [.int c, .int d], .tup [.int a, .int b]] μ1 (fun y μ2 => gEq y (.bl u) μ2 Q)
      | _ => False) := by
  refine ⟨n, r, a, b, c, d, rfl, hn, ?_⟩
  cases e : ahead n a b c d with
  | true =>
    rw [e, Bool.true_or] at hu
    subst hu
    simpa using q
  | false =>
    rw [e, Bool.false_or] at hu
    refine ⟨n, r, c, d, a, b, rfl, hn, ?_⟩
    dsimp only
    rw [hu, gEq_bl]
    simpa using q
theorem un0 {a b c d : Int} : (ahead 0 a b c d || ahead 0 c d a b) = !decide (a = c) := by
  unfold ahead
  by_cases h : a = c
  · subst h; simp
  · simp only [h, decide_false, Bool.not_false, Bool.or_eq_true, decide_eq_true_eq]; omega
theorem un1 {a b c d : Int} : (ahead 1 a b c d || ahead 1 c d a b) = (!decide (a = c) || !decide (b = d)) := by
  unfold ahead
  by_cases h : a = c <;> by_cases h2 : b = d
  · subst h; subst h2; simp
  · simp only [h2, decide_false, Bool.not_false, Bool.or_true, Bool.or_eq_true, decide_eq_true_eq]; omega
  · simp only [h, decide_false, Bool.not_false, Bool.true_or, Bool.or_eq_true, decide_eq_true_eq]; omega
  · simp only [h, decide_false, Bool.not_false, Bool.true_or, Bool.or_eq_true, decide_eq_true_eq]; omega
theorem un2 {a b c d : Int} : (ahead 2 a b c d || ahead 2 c d a b) = (!decide (a = c) || !decide (b = d)) := by
  unfold ahead
  by_cases h : a = c <;> by_cases h2 : b = d
  · subst h; subst h2; simp
  · simp only [h2, decide_false, Bool.not_false, Bool.or_true, Bool.or_eq_true, decide_eq_true_eq]; omega
  · simp only [h, decide_false, Bool.not_false, Bool.true_or, Bool.or_eq_true, decide_eq_true_eq]; omega
  · simp only [h, decide_false, Bool.not_false, Bool.true_or, Bool.or_eq_true, decide_eq_true_eq]; omega
def sp_pair : SpD := fun ds μ Q => ∃ (n : Nat) (r : D) (a b c d : Int), ds = [r, .tup [.int a, .int b], .tup [.int c, .int d]] ∧ Road n r ∧ Q (.bl true) μ
theorem ok_pair (T : Txt mg) {f1 fd1 ps1 f2 fd2} (c__law_due : Cl P w K mg base 1 "_law_due" f1 fd1 ps1 sp_due) (c_is_ahead : Cl P w K mg base 2 "is_ahead" f2 fd2 ["path", "one", "other"] sp_is_ahead) (kb_1 : KBinds K fd2 ["path", "one", "other"] ["other", "one", "path"] g3 g3)
    (F : Fun K "_law_pair_right" "_law_pair_right" s__law_pair_right f fd) : FnG P w K mg base CX0 3 f fd ["_law_road", "_law_near_here", "_law_far"] (up K sp_pair) := by
  refine okD F sc__law_pair_right (fun ⟨n, r, a, b, c, d, e, _⟩ => by rw [e]; rfl) ?_
  rintro X ⟨cdv, A, outer, s, H, E, rfl⟩ hgu hr
  have hD_1 : ∀ {μ : Mu} {H : Hp} {vs : List V} {ds : List D}, DaL K μ H vs ds → DaL K μ H (g3 [] vs) (g3D ds) := hD3
  refine ⟨_, (ds_cons (ds_for PassesOwn.never rfl (di_tup (pd_tup (pda_cons (pd_tup (pda_cons (pd_var 1) (pda_cons (pd_var 2) pda_nil))) (pda_cons (pd_tup (pda_cons (pd_var 2) (pda_cons (pd_var 1) pda_nil))) (pda_cons (pd_tup (pda_cons (pd_var 1) (pda_cons (pd_var 1) pda_nil))) (pda_cons (pd_tup (pda_cons (pd_var 2) (pda_cons (pd_var 2) pda_nil))) pda_nil)))))) (dg_tup rfl (dgs_cons (dg_name (i := 3) sc__law_pair_right.nd) (dgs_cons (dg_name (i := 4) sc__law_pair_right.nd) dgs_nil))) (ds_cons (ds_set (i := 5) sc__law_pair_right.nd (pd_call c__law_due hr hgu (pda_cons (pd_var 0) (pda_cons (pd_var 3) (pda_cons (pd_var 4) pda_nil)))))
      (ds_cons (ds_set (i := 6) sc__law_pair_right.nd (pd_lst (pda_cons (pd_call c_is_ahead hr hgu (pda_cons (pd_var 0) (pda_cons (pd_var 3) (pda_cons (pd_var 4) pda_nil)))) (pda_cons (pd_callK c_is_ahead kb_1 (fun l => hD_1 l) hr hgu (pdk_cons (pd_var 4) (pdk_cons (pd_var 3) (pdk_cons (pd_var 0) pdk_nil)))) pda_nil))))
      (ds_one (ds_if (pt_ne hr (pd_repr hr hgu T.repr (by decide +kernel) (pd_var 6)) (pd_repr hr hgu T.repr (by decide +kernel) (pd_lst (pda_cons (pd_var 5) (pda_cons (pd_var 5) pda_nil))))) (ds_one (ds_ret pd_bl)) ds_nil)))))
      (ds_cons (ds_set (i := 7) sc__law_pair_right.nd (pd_or (pd_ne hr (pd_at (pd_var 1) pd_int) (pd_at (pd_var 2) pd_int)) (pd_one (pd_and (pd_ne hr (pd_at (pd_var 0) pd_int) pd_str) (pd_one (pd_ne hr (pd_at (pd_var 1) pd_int) (pd_at (pd_var 2) pd_int)))))))
      (ds_one (ds_ret (pd_eq hr (pd_or (pd_call c_is_ahead hr hgu (pda_cons (pd_var 0) (pda_cons (pd_var 1) (pda_cons (pd_var 2) pda_nil)))) (pd_one (pd_call c_is_ahead hr hgu (pda_cons (pd_var 0) (pda_cons (pd_var 2) (pda_cons (pd_var 1) pda_nil)))))) (pd_var 7)))))), ?_⟩
  rintro ds μ Q ⟨n, r, a, b, c, d, rfl, hn, q⟩
  simp only [dSeq, dFor, dRowT, dTup, dCons, dNil, dVar, slot, startD, List.map, List.length, List.replicate, List.cons_append, List.nil_append, Nat.reduceSub, Nat.reduceAdd]
  refine ⟨sz (by decide), sz (by decide), sz (by decide), sz (by decide), sz (by decide), ?_⟩
  refine ⟨fun i ρ μ1 => μ1 = μ ∧ ∃ v3 v4 v5 v6 v7, ρ = [some r, some (.tup [.int a, .int b]), some (.tup [.int c, .int d]), v3, v4, v5, v6, v7], ⟨rfl, _, _, _, _, _, rfl⟩, fun _ _ _ _ => trivial, ?_, ?_⟩
  · rintro i x ρ μ1 hx ⟨rfl, v3, v4, v5, v6, v7, rfl⟩
    obtain ⟨a', b', c', d', rfl⟩ : ∃ a' b' c' d', x = .tup [.tup [.int a', .int b'], .tup [.int c', .int d']] := by
      match i, hx with
      | 0, hx => exact ⟨_, _, _, _, (Option.some.inj hx).symm⟩
      | 1, hx => exact ⟨_, _, _, _, (Option.some.inj hx).symm⟩
      | 2, hx => exact ⟨_, _, _, _, (Option.some.inj hx).symm⟩
      | 3, hx => exact ⟨_, _, _, _, (Option.some.inj hx).symm⟩
    walk_at "dx"
    refine ⟨n, r, a', b', c', d', rfl, hn, ?_⟩
    walk_at "dx"
    refine ⟨n, r, a', b', c', d', rfl, hn, ?_⟩
    walk_at "dx"
    refine ⟨n, r, a', b', c', d', rfl, hn, ?_⟩
    walk_at "dx"
    refine ⟨sz (by decide), shows2, sz (by decide), shows2, ?_⟩
    exact ⟨_, _, _, _, _, rfl⟩
  · rintro ρ μ1 ⟨rfl, v3, v4, v5, v6, v7, rfl⟩
    cases hn with
    | heap =>
      walk_at "dx"
      have hu := un0 (a := a) (b := b) (c := c) (d := d)
      by_cases e : a = c
      · simp only [e, decide_true, Bool.not_true] at hu ⊢
        walk_at "dx"
        exact tail_ok .heap hu q
      · simp only [e, decide_false, Bool.not_false] at hu ⊢
        exact tail_ok .heap hu q
    | up x =>
      walk_at "dx"
      simp only [n3, decide_false, Bool.not_false]
      have hu := un1 (a := a) (b := b) (c := c) (d := d)
      by_cases e : a = c
      · simp only [e, decide_true, Bool.not_true, Bool.false_or] at hu ⊢
        exact tail_ok (.up x) hu q
      · simp only [e, decide_false, Bool.not_false, Bool.true_or] at hu ⊢
        exact tail_ok (.up x) hu q
    | down x =>
      walk_at "dx"
      simp only [n4, decide_false, Bool.not_false]
      have hu := un2 (a := a) (b := b) (c := c) (d := d)
      by_cases e : a = c
      · simp only [e, decide_true, Bool.not_true, Bool.false_or] at hu ⊢
        exact tail_ok (.down x) hu q
      · simp only [e, decide_false, Bool.not_false, Bool.true_or] at hu ⊢
        exact tail_ok (.down x) hu q
theorem ahead_trans {n : Nat} {a b c d e g : Int} (h1 : ahead n a b c d = true) (h2 : ahead n c d e g = true) : ahead n a b e g = true := by
  unfold ahead at *
  split at h1 <;> simp only [decide_eq_true_eq] at * <;> omega
def sp_chain : SpD := fun ds μ Q => ∃ (n : Nat) (r : D) (a b c d e g : Int), ds = [r, .tup [.tup [.int a, .int b], .tup [.int c, .int d], .tup [.int e, .int g]]] ∧ Road n r ∧ Q (.bl true) μ
theorem ok_chain (T : Txt mg) {f2 fd2} (c_is_ahead : Cl P w K mg base 2 "is_ahead" f2 fd2 ["path", "one", "other"] sp_is_ahead) (F : Fun K "_law_chain_right" "_law_chain_right" s__law_chain_right f fd) :
    FnG P w K mg base CX0 3 f fd ["_law_road", "_law_rows"] (up K sp_chain) := by
  refine okD F sc__law_chain_right (fun ⟨n, r, a, b, c, d, e, g, h, _⟩ => by rw [h]; rfl) ?_
  rintro X ⟨cdv, A, outer, s, H, E, rfl⟩ hgu hr
  refine ⟨_, (ds_cons (ds_asg (pd_var 1) (dg_tup rfl (dgs_cons (dg_name (i := 2) sc__law_chain_right.nd) (dgs_cons (dg_name (i := 3) sc__law_chain_right.nd) (dgs_cons (dg_name (i := 4) sc__law_chain_right.nd) dgs_nil)))))
      (ds_cons (ds_if (pt_w (pw_a (pt_b (pd_call c_is_ahead hr hgu (pda_cons (pd_var 0) (pda_cons (pd_var 2) (pda_cons (pd_var 3) pda_nil))))) (pw_a1 (pt_b (pd_call c_is_ahead hr hgu (pda_cons (pd_var 0) (pda_cons (pd_var 3) (pda_cons (pd_var 4) pda_nil)))))))) (ds_one (ds_ret (pd_isB (pd_call c_is_ahead hr hgu (pda_cons (pd_var 0) (pda_cons (pd_var 2) (pda_cons (pd_var 4) pda_nil)))) pd_bl))) ds_nil)
      (ds_one (ds_ret pd_bl)))), ?_⟩
  rintro ds μ Q ⟨n, r, a, b, c, d, e, g, rfl, hn, q⟩
  walk_at "dx"
  refine ⟨n, r, a, b, c, d, rfl, hn, ?_⟩
  cases e1 : ahead n a b c d with
  | false => simpa using q
  | true =>
    simp only [if_true]
    refine ⟨n, r, c, d, e, g, rfl, hn, ?_⟩
    cases e2 : ahead n c d e g with
    | false => simpa using q
    | true =>
      simp only [if_true]
      refine ⟨n, r, a, b, e, g, rfl, hn, ?_⟩
      rw [ahead_trans e1 e2]
      simpa [gIs_bl] using q
/-! ### the law -/
def sp_law : SpD := fun ds μ Q => ∃ ns : List Int, ds = [.sq (ns.map .int)] ∧ ns.length ≤ 63 ∧ ∀ μ', Q (.bl true) μ'
theorem ok_law (T : Txt mg) {f1 fd1 ps1 f2 fd2 ps2 f3 fd3 ps3 f4 fd4 ps4 f5 fd5 ps5 f6 fd6 ps6 f7 fd7 ps7} (c__law_deck : Cl P w K mg base 1 "_law_deck" f1 fd1 ps1 sp_deck) (c__law_row : Cl P w K mg base 3 "_law_row" f2 fd2 ps2 sp_row)
    (c__law_draw : Cl P w K mg base 1 "_law_draw" f3 fd3 ps3 sp_draw) (c__law_near : Cl P w K mg base 2 "_law_near" f4 fd4 ps4 sp_near) (c__law_paths : Cl P w K mg base 3 "_law_paths" f5 fd5 ps5 sp_paths)
    (c__law_pair_right : Cl P w K mg base 3 "_law_pair_right" f6 fd6 ps6 sp_pair) (c__law_chain_right : Cl P w K mg base 3 "_law_chain_right" f7 fd7 ps7 sp_chain) (F : Fun K "law" "law" s_law f fd) :
    FnG P w K mg base CX0 4 f fd ["_law_script"] (up K sp_law) := by
  refine okD F sc_law (fun ⟨ns, h, _⟩ => by rw [h]; rfl) ?_
  rintro X ⟨cdv, A, outer, s, H, E, rfl⟩ hgu hr
  refine ⟨_, (ds_cons (ds_set (i := 1) sc_law.nd (pd_call c__law_deck hr hgu (pda_cons (pd_var 0) pda_nil)))
      (ds_cons (ds_for PassesOwn.never rfl (di_range1 T.range (pda_cons pd_int pda_nil)) (dg_name (i := 2) sc_law.nd) (ds_cons (ds_set (i := 3) sc_law.nd (pd_call c__law_row hr hgu (pda_cons (pd_var 1) pda_nil)))
      (ds_cons (ds_setC (i := 4) sc_law.nd (pd_if (pt_eq hr (pd_call c__law_draw hr hgu (pda_cons (pd_var 1) (pda_cons pd_int pda_nil))) pd_int) (pd_call c__law_near hr hgu (pda_cons (pd_var 1) (pda_cons (pd_var 3) pda_nil))) (pd_call c__law_row hr hgu (pda_cons (pd_var 1) pda_nil))))
      (ds_cons (ds_set (i := 5) sc_law.nd (pd_call c__law_near hr hgu (pda_cons (pd_var 1) (pda_cons (pd_var 4) pda_nil))))
      (ds_one (ds_for PassesOwn.never rfl (di_list (pd_call c__law_paths hr hgu (pda_cons (pd_var 1) pda_nil))) (dg_name (i := 6) sc_law.nd) (ds_cons (ds_if (pt_w (pw_o (pt_n (pt_b (pd_call c__law_pair_right hr hgu (pda_cons (pd_var 6) (pda_cons (pd_var 3) (pda_cons (pd_var 4) pda_nil)))))) (pw_o1 (pt_n (pt_b (pd_call c__law_pair_right hr hgu (pda_cons (pd_var 6) (pda_cons (pd_var 4) (pda_cons (pd_var 5) pda_nil))))))))) (ds_one (ds_ret pd_bl)) ds_nil)
      (ds_one (ds_if (pt_w (pw_o (pt_n (pt_b (pd_call c__law_chain_right hr hgu (pda_cons (pd_var 6) (pda_cons (pd_tup (pda_cons (pd_var 3) (pda_cons (pd_var 4) (pda_cons (pd_var 5) pda_nil)))) pda_nil))))) (pw_o1 (pt_n (pt_b (pd_call c__law_chain_right hr hgu (pda_cons (pd_var 6) (pda_cons (pd_tup (pda_cons (pd_var 5) (pda_cons (pd_var 4) (pda_cons (pd_var 3) pda_nil)))) pda_nil)))))))) (ds_one (ds_ret pd_bl)) ds_nil)))))))))
      (ds_one (ds_ret pd_bl)))), ?_⟩
  rintro ds μ Q ⟨ns, rfl, hl, q⟩
  walk_at "dx"
  refine ⟨ns, rfl, hl, fun μ1 d c _ _ hd _ => ?_⟩
  simp only [dFor, dRng1, dCons, dNil, dC, List.set]
  refine ⟨by decide, by decide, ?_⟩
  refine ⟨fun i ρ μ1 => Deck μ1 d c (20 * i) ∧ ∃ v2 v3 v4 v5 v6, ρ = [some (.sq (ns.map .int)), some (.ref d), v2, v3, v4, v5, v6], ⟨hd, _, _, _, _, _, rfl⟩, fun _ _ _ _ => trivial, ?_, ?_⟩
  · rintro i x ρ μ1 hx ⟨hd, v2, v3, v4, v5, v6, rfl⟩
    have hi : i < 60 := by
      rcases Nat.lt_or_ge i 60 with h | h
      · exact h
      · rw [List.getElem?_eq_none (by rw [rng_len]; exact h)] at hx
        cases hx
    walk_at "dx"
    refine ⟨d, c, _, rfl, hd, by omega, fun μ2 a b hd2 _ => ?_⟩
    simp only [dSeq, dAsgC]
    refine ⟨fun x μ => (∃ a' b', x = .tup [.int a', .int b']) ∧ Deck μ d c (20 * i + 11), ?_, ?_⟩
    · walk_at "dx"
      refine ⟨d, c, _, _, rfl, by decide, by decide, hd2, by omega, fun μ3 k _ _ hd3 _ => ?_⟩
      walk_at "dx"
      by_cases e : k = 0
      · simp only [e, decide_true, if_true]
        exact ⟨d, c, _, _, _, rfl, hd3, by omega, fun μ4 a' b' hd4 _ => ⟨⟨_, _, rfl⟩, hd4.more (by omega)⟩⟩
      · simp only [e, decide_false, if_false, Bool.false_eq_true]
        exact ⟨d, c, _, rfl, hd3, by omega, fun μ4 a' b' hd4 _ => ⟨⟨_, _, rfl⟩, hd4.more (by omega)⟩⟩
    · rintro _ μ4 ⟨⟨a', b', rfl⟩, hd4⟩
      walk_at "dx"
      refine ⟨d, c, _, _, _, rfl, hd4, by omega, fun μ5 a2 b2 hd5 _ => ?_⟩
      simp only [dFor, dRow, dCall, dCons, dNil, dVar, slot, List.set]
      refine ⟨d, c, _, rfl, hd5, by omega, fun μ6 y hd6 _ => ?_⟩
      refine ⟨fun j ρ μ1 => μ1 = μ6 ∧ ∃ v6, ρ = [some (.sq (ns.map .int)), some (.ref d), some x, some (.tup [.int a, .int b]), some (.tup [.int a', .int b']), some (.tup [.int a2, .int b2]), v6], ⟨rfl, _, rfl⟩, fun _ _ _ _ => trivial, ?_, ?_⟩
      · rintro j z ρ μ1 hz ⟨rfl, v6, rfl⟩
        obtain ⟨n, hn⟩ : ∃ n, Road n z := by
          match j, hz with
          | 0, hz => exact ⟨0, (Option.some.inj hz) ▸ .heap⟩
          | 1, hz => exact ⟨1, (Option.some.inj hz) ▸ .up _⟩
          | 2, hz => exact ⟨2, (Option.some.inj hz) ▸ .down _⟩
        walk_at "dx"
        refine ⟨n, z, _, _, _, _, rfl, hn, ?_⟩
        walk_at "dx"
        refine ⟨n, z, _, _, _, _, rfl, hn, ?_⟩
        walk_at "dx"
        refine ⟨sz (by decide), n, z, _, _, _, _, _, _, rfl, hn, ?_⟩
        walk_at "dx"
        refine ⟨sz (by decide), n, z, _, _, _, _, _, _, rfl, hn, ?_⟩
        walk_at "dx"
        exact ⟨_, rfl⟩
      · rintro ρ μ1 ⟨rfl, v6, rfl⟩
        exact ⟨hd6.more (by omega), _, _, _, _, _, rfl⟩
  · rintro ρ μ1 ⟨hd, v2, v3, v4, v5, v6, rfl⟩
    walk_at "dx"
    exact q _
/-! ### what the top has left, and the head -/
theorem all_mk {l : PySem.W.OpenLaw} {w : World} {K : PySem.W.Frag} {h : Heap} {mg : Str → Option Value} {fa : Addr} (X : K.In h) (G : h.Ns mainGlobals mg) (hfa : mg "law" = some (.ref fa)) {f_precedes : Addr} {od_precedes an_precedes : Option Addr} {sl_precedes : Array (Option Value)} {oc_precedes kV_precedes dc_precedes pm_precedes cd_precedes ct_precedes : Value}
    {f_is_ahead : Addr} {od_is_ahead an_is_ahead : Option Addr} {sl_is_ahead : Array (Option Value)} {oc_is_ahead kV_is_ahead dc_is_ahead pm_is_ahead cd_is_ahead ct_is_ahead : Value}
    {f__law_deck : Addr} {od__law_deck an__law_deck : Option Addr} {sl__law_deck : Array (Option Value)} {oc__law_deck kV__law_deck dc__law_deck pm__law_deck cd__law_deck ct__law_deck : Value}
    {f__law_draw : Addr} {od__law_draw an__law_draw : Option Addr} {sl__law_draw : Array (Option Value)} {oc__law_draw kV__law_draw dc__law_draw pm__law_draw cd__law_draw ct__law_draw : Value}
    {f__law_pick : Addr} {od__law_pick an__law_pick : Option Addr} {sl__law_pick : Array (Option Value)} {oc__law_pick kV__law_pick dc__law_pick pm__law_pick cd__law_pick ct__law_pick : Value}
    {f__law_row : Addr} {od__law_row an__law_row : Option Addr} {sl__law_row : Array (Option Value)} {oc__law_row kV__law_row dc__law_row pm__law_row cd__law_row ct__law_row : Value}
    {f__law_near : Addr} {od__law_near an__law_near : Option Addr} {sl__law_near : Array (Option Value)} {oc__law_near kV__law_near dc__law_near pm__law_near cd__law_near ct__law_near : Value}
    {f__law_paths : Addr} {od__law_paths an__law_paths : Option Addr} {sl__law_paths : Array (Option Value)} {oc__law_paths kV__law_paths dc__law_paths pm__law_paths cd__law_paths ct__law_paths : Value}
    {f__law_due : Addr} {od__law_due an__law_due : Option Addr} {sl__law_due : Array (Option Value)} {oc__law_due kV__law_due dc__law_due pm__law_due cd__law_due ct__law_due : Value}
    {f__law_pair_right : Addr} {od__law_pair_right an__law_pair_right : Option Addr} {sl__law_pair_right : Array (Option Value)} {oc__law_pair_right kV__law_pair_right dc__law_pair_right pm__law_pair_right cd__law_pair_right ct__law_pair_right : Value}
    {f__law_chain_right : Addr} {od__law_chain_right an__law_chain_right : Option Addr} {sl__law_chain_right : Array (Option Value)} {oc__law_chain_right kV__law_chain_right dc__law_chain_right pm__law_chain_right cd__law_chain_right ct__law_chain_right : Value}
    {f_law : Addr} {od_law an_law : Option Addr} {sl_law : Array (Option Value)} {oc_law kV_law dc_law pm_law cd_law ct_law : Value}
    (a_precedes : PySem.W.nsIn K mainGlobals "precedes" = some (some (.ref f_precedes))) (l_precedes : K.lookup f_precedes = some ⟨oc_precedes, od_precedes, .func (PySem.W.fnOf "precedes" "precedes" (defArgs s_precedes) (defBody s_precedes) (defScope s_precedes) .none kV_precedes dc_precedes pm_precedes an_precedes cd_precedes ct_precedes), sl_precedes⟩) (d_precedes : PySem.W.codeIn K cd_precedes "precedes" = true) (k_precedes : PySem.W.keepIn K (.ref f_precedes) = true)
    (a_is_ahead : PySem.W.nsIn K mainGlobals "is_ahead" = some (some (.ref f_is_ahead))) (l_is_ahead : K.lookup f_is_ahead = some ⟨oc_is_ahead, od_is_ahead, .func (PySem.W.fnOf "is_ahead" "is_ahead" (defArgs s_is_ahead) (defBody s_is_ahead) (defScope s_is_ahead) .none kV_is_ahead dc_is_ahead pm_is_ahead an_is_ahead cd_is_ahead ct_is_ahead), sl_is_ahead⟩) (d_is_ahead : PySem.W.codeIn K cd_is_ahead "is_ahead" = true) (k_is_ahead : PySem.W.keepIn K (.ref f_is_ahead) = true)
    (a__law_deck : PySem.W.nsIn K mainGlobals "_law_deck" = some (some (.ref f__law_deck))) (l__law_deck : K.lookup f__law_deck = some ⟨oc__law_deck, od__law_deck, .func (PySem.W.fnOf "_law_deck" "_law_deck" (defArgs s__law_deck) (defBody s__law_deck) (defScope s__law_deck) .none kV__law_deck dc__law_deck pm__law_deck an__law_deck cd__law_deck ct__law_deck), sl__law_deck⟩) (d__law_deck : PySem.W.codeIn K cd__law_deck "_law_deck" = true) (k__law_deck : PySem.W.keepIn K (.ref f__law_deck) = true)
    (a__law_draw : PySem.W.nsIn K mainGlobals "_law_draw" = some (some (.ref f__law_draw))) (l__law_draw : K.lookup f__law_draw = some ⟨oc__law_draw, od__law_draw, .func (PySem.W.fnOf "_law_draw" "_law_draw" (defArgs s__law_draw) (defBody s__law_draw) (defScope s__law_draw) .none kV__law_draw dc__law_draw pm__law_draw an__law_draw cd__law_draw ct__law_draw), sl__law_draw⟩) (d__law_draw : PySem.W.codeIn K cd__law_draw "_law_draw" = true) (k__law_draw : PySem.W.keepIn K (.ref f__law_draw) = true)
    (a__law_pick : PySem.W.nsIn K mainGlobals "_law_pick" = some (some (.ref f__law_pick))) (l__law_pick : K.lookup f__law_pick = some ⟨oc__law_pick, od__law_pick, .func (PySem.W.fnOf "_law_pick" "_law_pick" (defArgs s__law_pick) (defBody s__law_pick) (defScope s__law_pick) .none kV__law_pick dc__law_pick pm__law_pick an__law_pick cd__law_pick ct__law_pick), sl__law_pick⟩) (d__law_pick : PySem.W.codeIn K cd__law_pick "_law_pick" = true) (k__law_pick : PySem.W.keepIn K (.ref f__law_pick) = true)
    (a__law_row : PySem.W.nsIn K mainGlobals "_law_row" = some (some (.ref f__law_row))) (l__law_row : K.lookup f__law_row = some ⟨oc__law_row, od__law_row, .func (PySem.W.fnOf "_law_row" "_law_row" (defArgs s__law_row) (defBody s__law_row) (defScope s__law_row) .none kV__law_row dc__law_row pm__law_row an__law_row cd__law_row ct__law_row), sl__law_row⟩) (d__law_row : PySem.W.codeIn K cd__law_row "_law_row" = true) (k__law_row : PySem.W.keepIn K (.ref f__law_row) = true)
    (a__law_near : PySem.W.nsIn K mainGlobals "_law_near" = some (some (.ref f__law_near))) (l__law_near : K.lookup f__law_near = some ⟨oc__law_near, od__law_near, .func (PySem.W.fnOf "_law_near" "_law_near" (defArgs s__law_near) (defBody s__law_near) (defScope s__law_near) .none kV__law_near dc__law_near pm__law_near an__law_near cd__law_near ct__law_near), sl__law_near⟩) (d__law_near : PySem.W.codeIn K cd__law_near "_law_near" = true) (k__law_near : PySem.W.keepIn K (.ref f__law_near) = true)
    (a__law_paths : PySem.W.nsIn K mainGlobals "_law_paths" = some (some (.ref f__law_paths))) (l__law_paths : K.lookup f__law_paths = some ⟨oc__law_paths, od__law_paths, .func (PySem.W.fnOf "_law_paths" "_law_paths" (defArgs s__law_paths) (defBody s__law_paths) (defScope s__law_paths) .none kV__law_paths dc__law_paths pm__law_paths an__law_paths cd__law_paths ct__law_paths), sl__law_paths⟩) (d__law_paths : PySem.W.codeIn K cd__law_paths "_law_paths" = true) (k__law_paths : PySem.W.keepIn K (.ref f__law_paths) = true)
    (a__law_due : PySem.W.nsIn K mainGlobals "_law_due" = some (some (.ref f__law_due))) (l__law_due : K.lookup f__law_due = some ⟨oc__law_due, od__law_due, .func (PySem.W.fnOf "_law_due" "_law_due" (defArgs s__law_due) (defBody s__law_due) (defScope s__law_due) .none kV__law_due dc__law_due pm__law_due an__law_due cd__law_due ct__law_due), sl__law_due⟩) (d__law_due : PySem.W.codeIn K cd__law_due "_law_due" = true) (k__law_due : PySem.W.keepIn K (.ref f__law_due) = true)
    (a__law_pair_right : PySem.W.nsIn K mainGlobals "_law_pair_right" = some (some (.ref f__law_pair_right))) (l__law_pair_right : K.lookup f__law_pair_right = some ⟨oc__law_pair_right, od__law_pair_right, .func (PySem.W.fnOf "_law_pair_right" "_law_pair_right" (defArgs s__law_pair_right) (defBody s__law_pair_right) (defScope s__law_pair_right) .none kV__law_pair_right dc__law_pair_right pm__law_pair_right an__law_pair_right cd__law_pair_right ct__law_pair_right), sl__law_pair_right⟩) (d__law_pair_right : PySem.W.codeIn K cd__law_pair_right "_law_pair_right" = true) (k__law_pair_right : PySem.W.keepIn K (.ref f__law_pair_right) = true)
    (a__law_chain_right : PySem.W.nsIn K mainGlobals "_law_chain_right" = some (some (.ref f__law_chain_right))) (l__law_chain_right : K.lookup f__law_chain_right = some ⟨oc__law_chain_right, od__law_chain_right, .func (PySem.W.fnOf "_law_chain_right" "_law_chain_right" (defArgs s__law_chain_right) (defBody s__law_chain_right) (defScope s__law_chain_right) .none kV__law_chain_right dc__law_chain_right pm__law_chain_right an__law_chain_right cd__law_chain_right ct__law_chain_right), sl__law_chain_right⟩) (d__law_chain_right : PySem.W.codeIn K cd__law_chain_right "_law_chain_right" = true) (k__law_chain_right : PySem.W.keepIn K (.ref f__law_chain_right) = true)
    (a_law : PySem.W.nsIn K mainGlobals "law" = some (some (.ref f_law))) (l_law : K.lookup f_law = some ⟨oc_law, od_law, .func (PySem.W.fnOf "law" "law" (defArgs s_law) (defBody s_law) (defScope s_law) .none kV_law dc_law pm_law an_law cd_law ct_law), sl_law⟩) (d_law : PySem.W.codeIn K cd_law "law" = true) (k_law : PySem.W.keepIn K (.ref f_law) = true)
    (n0 : ∃ t, PySem.W.nsIn K mainGlobals "HEAP" = some (some (.str "heap" t))) (n1 : ∃ t, PySem.W.nsIn K mainGlobals "DOWN" = some (some (.str "down" t)))
    (z1 : PySem.W.nsIn K mainGlobals "len" = some none) (z2 : PySem.W.nsIn K mainGlobals "list" = some none) (z3 : PySem.W.nsIn K mainGlobals "max" = some none) (z4 : PySem.W.nsIn K mainGlobals "repr" = some none) (z5 : PySem.W.nsIn K mainGlobals "range" = some none) :
    ∃ fd : FuncData, (∀ (s : Shared) (v : Value), BindsTo s fd ⟨[v], []⟩ [("_law_script", v)]) ∧ ∀ base : Heap, K.In base → base.Ns mainGlobals mg → FnG l.prog w K mg base CX0 4 fa fd ["_law_script"] (up K sp_law) := by
  have e := hfa.symm.trans (PySem.W.mg_of X G a_law)
  cases e
  have T : Txt mg := ⟨let ⟨t, e⟩ := n0; ⟨t, PySem.W.mg_of X G e⟩, let ⟨t, e⟩ := n1; ⟨t, PySem.W.mg_of X G e⟩, PySem.W.mg_none_of X G z1, PySem.W.mg_none_of X G z2, PySem.W.mg_none_of X G z3, PySem.W.mg_none_of X G z4, PySem.W.mg_none_of X G z5⟩
  have F_precedes := fun_mk (st := s_precedes) l_precedes d_precedes k_precedes
  have b_precedes := F_precedes.binds (ps := ["path", "one", "other"]) fun _ _ _ _ _ _ us hl => match us, hl with | [_, _, _], _ => rfl
  have F_is_ahead := fun_mk (st := s_is_ahead) l_is_ahead d_is_ahead k_is_ahead
  have b_is_ahead := F_is_ahead.binds (ps := ["path", "one", "other"]) fun _ _ _ _ _ _ us hl => match us, hl with | [_, _, _], _ => rfl
  have F__law_deck := fun_mk (st := s__law_deck) l__law_deck d__law_deck k__law_deck
  have b__law_deck := F__law_deck.binds (ps := ["_law_script"]) fun _ _ _ _ _ _ us hl => match us, hl with | [_], _ => rfl
  have F__law_draw := fun_mk (st := s__law_draw) l__law_draw d__law_draw k__law_draw
  have b__law_draw := F__law_draw.binds (ps := ["_law_deck_here", "_law_many"]) fun _ _ _ _ _ _ us hl => match us, hl with | [_, _], _ => rfl
  have F__law_pick := fun_mk (st := s__law_pick) l__law_pick d__law_pick k__law_pick
  have b__law_pick := F__law_pick.binds (ps := ["_law_deck_here", "_law_some"]) fun _ _ _ _ _ _ us hl => match us, hl with | [_, _], _ => rfl
  have F__law_row := fun_mk (st := s__law_row) l__law_row d__law_row k__law_row
  have b__law_row := F__law_row.binds (ps := ["_law_deck_here"]) fun _ _ _ _ _ _ us hl => match us, hl with | [_], _ => rfl
  have F__law_near := fun_mk (st := s__law_near) l__law_near d__law_near k__law_near
  have b__law_near := F__law_near.binds (ps := ["_law_deck_here", "_law_row_here"]) fun _ _ _ _ _ _ us hl => match us, hl with | [_, _], _ => rfl
  have F__law_paths := fun_mk (st := s__law_paths) l__law_paths d__law_paths k__law_paths
  have b__law_paths := F__law_paths.binds (ps := ["_law_deck_here"]) fun _ _ _ _ _ _ us hl => match us, hl with | [_], _ => rfl
  have F__law_due := fun_mk (st := s__law_due) l__law_due d__law_due k__law_due
  have b__law_due := F__law_due.binds (ps := ["_law_road", "_law_near_here", "_law_far"]) fun _ _ _ _ _ _ us hl => match us, hl with | [_, _, _], _ => rfl
  have F__law_pair_right := fun_mk (st := s__law_pair_right) l__law_pair_right d__law_pair_right k__law_pair_right
  have b__law_pair_right := F__law_pair_right.binds (ps := ["_law_road", "_law_near_here", "_law_far"]) fun _ _ _ _ _ _ us hl => match us, hl with | [_, _, _], _ => rfl
  have F__law_chain_right := fun_mk (st := s__law_chain_right) l__law_chain_right d__law_chain_right k__law_chain_right
  have b__law_chain_right := F__law_chain_right.binds (ps := ["_law_road", "_law_rows"]) fun _ _ _ _ _ _ us hl => match us, hl with | [_, _], _ => rfl
  have F_law := fun_mk (st := s_law) l_law d_law k_law
  have b_law := F_law.binds (ps := ["_law_script"]) fun _ _ _ _ _ _ us hl => match us, hl with | [_], _ => rfl
  refine ⟨PySem.W.fnOf "law" "law" (defArgs s_law) (defBody s_law) (defScope s_law) .none kV_law dc_law pm_law an_law cd_law ct_law, fun s v => .of_eq rfl, fun base _ _ => ?_⟩
  have c_precedes : Cl l.prog w K mg base 1 "precedes" _ _ _ sp_precedes := ⟨ok_precedes T F_precedes, PySem.W.mg_of X G a_precedes, F_precedes.kp, b_precedes⟩
  have c_is_ahead : Cl l.prog w K mg base 2 "is_ahead" _ _ _ sp_is_ahead := ⟨ok_is_ahead T c_precedes F_is_ahead, PySem.W.mg_of X G a_is_ahead, F_is_ahead.kp, b_is_ahead⟩
  have c_deck : Cl l.prog w K mg base 1 "_law_deck" _ _ _ sp_deck := ⟨ok_deck T F__law_deck, PySem.W.mg_of X G a__law_deck, F__law_deck.kp, b__law_deck⟩
  have c_draw : Cl l.prog w K mg base 1 "_law_draw" _ _ _ sp_draw := ⟨ok_draw T F__law_draw, PySem.W.mg_of X G a__law_draw, F__law_draw.kp, b__law_draw⟩
  have c_pick : Cl l.prog w K mg base 2 "_law_pick" _ _ _ sp_pick := ⟨ok_pick T c_draw F__law_pick, PySem.W.mg_of X G a__law_pick, F__law_pick.kp, b__law_pick⟩
  have c_row : Cl l.prog w K mg base 3 "_law_row" _ _ _ sp_row := ⟨ok_row T c_draw c_pick F__law_row, PySem.W.mg_of X G a__law_row, F__law_row.kp, b__law_row⟩
  have c_near : Cl l.prog w K mg base 2 "_law_near" _ _ _ sp_near := ⟨ok_near T c_draw F__law_near, PySem.W.mg_of X G a__law_near, F__law_near.kp, b__law_near⟩
  have c_paths : Cl l.prog w K mg base 3 "_law_paths" _ _ _ sp_paths := ⟨ok_paths T c_pick F__law_paths, PySem.W.mg_of X G a__law_paths, F__law_paths.kp, b__law_paths⟩
  have c_due : Cl l.prog w K mg base 1 "_law_due" _ _ _ sp_due := ⟨ok_due T F__law_due, PySem.W.mg_of X G a__law_due, F__law_due.kp, b__law_due⟩
  have c_pair : Cl l.prog w K mg base 3 "_law_pair_right" _ _ _ sp_pair := ⟨ok_pair T c_due c_is_ahead (kb_ahead F_is_ahead) F__law_pair_right, PySem.W.mg_of X G a__law_pair_right, F__law_pair_right.kp, b__law_pair_right⟩
  have c_chain : Cl l.prog w K mg base 3 "_law_chain_right" _ _ _ sp_chain := ⟨ok_chain T c_is_ahead F__law_chain_right, PySem.W.mg_of X G a__law_chain_right, F__law_chain_right.kp, b__law_chain_right⟩
  exact ok_law T c_deck c_row c_draw c_near c_paths c_pair c_chain F_law
end
theorem walk {l : PySem.W.OpenLaw} {q : Program} {loose : List Str} {XP : (Str → Option Value) → Heap → Prop} {YP : World → Heap → Prop} {d : DefRec} {K : Params → PySem.W.Frag} (hn : l.most = some 63) (hdf : d.params.defaults = [])
    (hY : ∀ (w : World) (h : Heap), YP w h → (K w.params).In h)
    (F : ∀ (w : World) (mg : Str → Option Value) (fa : Addr) (h : Heap), (K w.params).In h → h.Ns mainGlobals mg → mg d.name = some (.ref fa) →
      ∃ fd : FuncData, (∀ (s : Shared) (u : Value), BindsTo s fd ⟨[u], []⟩ [("_law_script", u)]) ∧ ∀ base : Heap, (K w.params).In base → base.Ns mainGlobals mg → FnG l.prog w (K w.params) mg base CX0 4 fa fd ["_law_script"] (up (K w.params) sp_law)) :
    PySem.W.WalkO q loose XP YP l.row.toRowW d [] (fun f vs => PySem.call f vs) :=
  walkG (n := 63) (k := 4) (x := "_law_script") (CX := fun _ => CX0) (sp := fun w => up (K w.params) sp_law) hn (by decide) hdf ⟨rfl, by decide, by decide⟩ hY F
    (fun w H a ns hl hS => up_law hS ⟨ns, rfl, hl, fun _ => rfl⟩) fun _ _ _ _ _ z => z
end K20
open PySem PySem.W PyProof.Rows
set_option maxRecDepth 100000 in
set_option maxHeartbeats 0 in
theorem PySem.Challenge.cw_ownwake_k20_places_ahead_holds : PySem.Challenge.rw_ownwake_k20_places_ahead.Holds := by
  w_on; o_law; k_head; (case hw => w_witness2)
  k_fill
  refine K20.walk (l := PySem.Challenge.rw_ownwake_k20_places_ahead) rfl rfl (fun w h Y => PySem.W.kIn_of Y) ?F
  case F =>
    intro w mg fa h KX G hmg
    refine' K20.all_mk KX G hmg ?a_precedes ?l_precedes ?d_precedes ?k_precedes ?a_is_ahead ?l_is_ahead ?d_is_ahead ?k_is_ahead ?a__law_deck ?l__law_deck ?d__law_deck ?k__law_deck ?a__law_draw ?l__law_draw ?d__law_draw ?k__law_draw ?a__law_pick ?l__law_pick ?d__law_pick ?k__law_pick ?a__law_row ?l__law_row ?d__law_row ?k__law_row ?a__law_near ?l__law_near ?d__law_near ?k__law_near ?a__law_paths ?l__law_paths ?d__law_paths ?k__law_paths ?a__law_due ?l__law_due ?d__law_due ?k__law_due ?a__law_pair_right ?l__law_pair_right ?d__law_pair_right ?k__law_pair_right ?a__law_chain_right ?l__law_chain_right ?d__law_chain_right ?k__law_chain_right ?a_law ?l_law ?d_law ?k_law ?n0 ?n1 ?z1 ?z2 ?z3 ?z4 ?z5
    (case a_precedes => k_is); (case l_precedes => k_is); (case d_precedes => k_is); (case k_precedes => k_is)
    (case a_is_ahead => k_is); (case l_is_ahead => k_is); (case d_is_ahead => k_is); (case k_is_ahead => k_is)
    (case a__law_deck => k_is); (case l__law_deck => k_is); (case d__law_deck => k_is); (case k__law_deck => k_is)
    (case a__law_draw => k_is); (case l__law_draw => k_is); (case d__law_draw => k_is); (case k__law_draw => k_is)
    (case a__law_pick => k_is); (case l__law_pick => k_is); (case d__law_pick => k_is); (case k__law_pick => k_is)
    (case a__law_row => k_is); (case l__law_row => k_is); (case d__law_row => k_is); (case k__law_row => k_is)
    (case a__law_near => k_is); (case l__law_near => k_is); (case d__law_near => k_is); (case k__law_near => k_is)
    (case a__law_paths => k_is); (case l__law_paths => k_is); (case d__law_paths => k_is); (case k__law_paths => k_is)
    (case a__law_due => k_is); (case l__law_due => k_is); (case d__law_due => k_is); (case k__law_due => k_is)
    (case a__law_pair_right => k_is); (case l__law_pair_right => k_is); (case d__law_pair_right => k_is); (case k__law_pair_right => k_is)
    (case a__law_chain_right => k_is); (case l__law_chain_right => k_is); (case d__law_chain_right => k_is); (case k__law_chain_right => k_is)
    (case a_law => k_is); (case l_law => k_is); (case d_law => k_is); (case k_law => k_is)
    (case n0 => exact ⟨_, by k_is⟩); (case n1 => exact ⟨_, by k_is⟩)
    (case z1 => k_is); (case z2 => k_is); (case z3 => k_is); (case z4 => k_is); (case z5 => k_is)
#print axioms PySem.Challenge.cw_ownwake_k20_places_ahead_holds
