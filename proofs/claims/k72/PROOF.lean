import PyProof.Rows.All
import Wide.All
import OpenK.AllK
import Wide.FinOn
import HandS.ForMost
import HandS.Style
import HandS.TupAny
import PyProof.ReprRoads
import KE.DataEq
import KE.DataCmp
import KE.DataIsa
import KE.DataAny
import KE.SortData
import HandS.Defaults
import HandS.IsInst
import HandS.Wide
import HandS.Property
import KE.KCallOwn
import HandS.Comp
import HandS.Flow
import HandS.Steps
import HandS.FStr
import HandS.RaiseMore
import PyProof.ReprLen
import PySem.Challenge.RW_ownwake_k72_exact_fractions
set_option Elab.async false
set_option linter.all false
set_option maxRecDepth 100000
set_option maxHeartbeats 4000000
set_option maxHeartbeats 400000
/-! Defs that are called where no repr is under way (the layer's own promises say nothing of guards). -/
namespace Dl
open PySem PySem.Spec PyProof.Rows L2

/-- as the layer's FnOk, but only for callers without a guard -/
structure FnG (P : Program) (w : World) (K : PySem.W.Frag) (mg : Str → Option Value) (base : Heap) (CX : CXT) (k : Nat) (f : Addr) (fd : FuncData) (ps : List Str) (sp : Sp) : Prop where
  arity : ∀ {vs H Q E}, sp vs H Q E → vs.length = ps.length
  go : ∀ {A : Around} {outer : List Env} {s : Shared} {H : Hp} {args : Args} {us : List Value} {vs : List V} {Q : VK} {E : XK}, A.guards = some [] → Room k A → Env0 P w K mg base A outer s H →
    BindsTo s fd args (ps.zip us) → Vals vs us → sp vs H Q E → codeAny (model P w) A (.call (.ref f) args) (CR CX outer P w H s Q E) s
section
variable {P : Program} {w : World} {K : PySem.W.Frag} {mg : Str → Option Value} {base : Heap} {CX : CXT} {j k : Nat} {f : Addr} {fd : FuncData} {ps : List Str} {sp : Sp}
theorem FnG.up (F : FnG P w K mg base CX j f fd ps sp) (h : j ≤ k) : FnG P w K mg base CX k f fd ps sp := ⟨F.arity, fun g r => F.go g (r.mono h)⟩
theorem kinds_ok {sc : Scope} {N : List Str} (S : FnScope N ps sc) (us : List Value) :
    ((ps.zip us).all fun y => sc.names.lookup y.1 == some .local || sc.names.lookup y.1 == some .cell) = true := by
  rw [List.all_eq_true]
  intro y hy
  have hm : y.1 ∈ ps := (List.of_mem_zip (a := y.1) (b := y.2) hy).1
  rcases S.par y.1 hm with q | q <;> simp [q]
/-- a def of the text by its body, the guard's word carried -/
theorem okG {x qual : Str} {st : Stmt} {N : List Str} (F : Fun K x qual st f fd) (S : FnScope N ps (defScope st)) (ar : ∀ {vs H Q E}, sp vs H Q E → vs.length = ps.length)
    (body : ∀ {cdv : Value} {A : Around} {outer : List Env} {s : Shared} {H : Hp} {vs : List V} {Q : VK} {E : XK}, A.guards = some [] → Room k (A.deeper (envOfC qual (defScope st) s.heap.objs.size f cdv)) → sp vs H Q E →
      ∃ t, PSs (cxOf CX P w K mg base N qual (defScope st) f cdv A outer s H E) (defBody st) t ∧ t { nx := fun _ H' => Q .non H', rt := Q } (start N vs) H) : FnG P w K mg base CX (k + 1) f fd ps sp := by
  obtain ⟨oc, od, kV, doc, pm, an, cdv, ct, osl, rfl, lk, hcd⟩ := F.ex
  refine ⟨ar, @fun A outer s H args us vs Q E hg hr e0 hb hv h => ?_⟩
  have keep : ∀ b o, base.get? b = some o → s.heap.get? b = some o := fun b o q => (e0.bs b o q).1
  obtain ⟨t, ht, hq⟩ := body (cdv := cdv) (outer := outer) (s := s) hg (hr.deeper _) h
  refine Att.call_fn (e0.mod.kin.keeps keep) (e0.mod.nolimit.keeps keep) lk hcd hr.depth hb (kinds_ok S us) (fun s1 ic => ?_) S.co S.gen S.kind
  have I := inv_start (CX := CX) (E := E) S hr.hd e0 (ar h) hv ic
  refine wpAny_mono (ht.run [] s1 _ H _ I hq) (fun fl s2 h2 => ?_) (fun e s2 h2 => h2)
  cases fl with
  | next => obtain ⟨σ2, H2, I2, q2⟩ := h2; exact ⟨V.non, H2, I2.os, I2.bare, I2.base, I2.hok, rfl, q2⟩
  | ret u => obtain ⟨v2, σ2, H2, I2, r2, q2⟩ := h2; exact ⟨v2, H2, I2.os, I2.bare, I2.base, I2.hok, r2, q2⟩
  | brk => obtain ⟨_, _, _, no⟩ := h2; exact no.elim
  | cont => obtain ⟨_, _, _, no⟩ := h2; exact no.elim
end

section
variable {X : Cx} {CX : CXT} {k : Nat} {f C : Addr} {fd : FuncData} {ps ks : List Str} {sp : Sp} {dvs : List V} {ds : List Value} {E : XK} {x m : Str} {p pos apos kpos : Pos} {e o : Expr} {es : List Expr} {ta : TE} {t tk : TA} {kws : List Keyword}
  {g : List Value → List Value → List Value} {gV : List V → List V → List V}
/-- behind a call: what came back, or the error handed on -/
theorem back {pins : List (Addr × Obj)} {σ : L2.St} {H : Hp} {s : Shared} {Q : VK} {args : Args} (hx : Passes CX X E) (I : Inv X pins σ H s)
    (h : codeAny (model X.prog X.w) X.A (.call (.ref f) args) (CR CX X.stack X.prog X.w H s Q E) s) : wpAny (model X.prog X.w) X.A (call (.ref f) args.pos args.kw) (EP X pins σ Q) X.xe s := by
  refine wpAny_call (codeAny_mono h fun r s' hq => ?_)
  match r, hq with
  | .error e, hq => exact hx pins σ H s e s' I hq
  | .ok (.ret u), hq => exact I.after hq
/-- f(e, ..) -/
theorem pe_callG (F : FnG X.prog X.w X.K X.mg X.base CX k f fd ps sp) (hr : Room k X.A) (hgu : X.A.guards = some []) (hg : Gl X x) (hm : X.mg x = some (.ref f)) (hk : PySem.W.keepIn X.K (.ref f) = true) (hb : Binds X.K fd ps ds) (hd : Vals dvs ds) (hx : Passes CX X E)
    (ha : PA X (e :: es) t) (hdb : (x == ("__debug__" : Str)) = false := by decide) (he : starEach (e :: es) X.env = (false, eval e X.env) :: starEach es X.env := by rfl) (hpl : (backTo pos (starEach es X.env)).any (·.1) = false := by rfl) :
    PE X (.Call (.Name x p) (e :: es) [] pos) (tCall sp dvs E t) := ⟨fun pins s σ H Q I h => by
  refine wpAny_Call_Name_kw (ld_glob I hg hm (PySem.W.callWith_K (h₀ := X.base) I.ok.mod.kin hk (thn (ha.run pos pins s σ H _ I h) ?_) he hpl) hdb)
  rintro us s1 ⟨vs, H1, I1, r, q⟩
  have z : Vals (vs ++ dvs) (us ++ ds) := r.append hd
  exact ⟨I1.kIn, back (args := ⟨us, []⟩) hx I1 (F.go hgu hr I1.env0 (hb s1 us I1.kIn (z.length.symm.trans (F.arity q))) z q)⟩⟩
/-- f(k = v, ..): keywords alone -/
def tCallK0 (sp : Sp) (gV : List V → List V → List V) (E : XK) (tk : TA) : TE := fun σ H Q => tk σ H fun zs H2 => sp (gV [] zs) H2 Q E
theorem pe_callKG0 (F : FnG X.prog X.w X.K X.mg X.base CX k f fd ps sp) (hr : Room k X.A) (hgu : X.A.guards = some []) (hg : Gl X x) (hm : X.mg x = some (.ref f)) (hk : PySem.W.keepIn X.K (.ref f) = true) (hb : KBinds X.K fd ps ks g gV) (hx : Passes CX X E)
    (hkw : PK X kws tk) (hall : (backToKw pos (keywordEach kws X.env)).all (·.1.isSome) = true := by rfl) (hks : (backToKw pos (keywordEach kws X.env)).filterMap (·.1) = ks := by rfl)
    (hdb : (x == ("__debug__" : Str)) = false := by decide)
    (hpl : ((backTo pos (starEach [] X.env)).any (·.1) || (backToKw pos (keywordEach kws X.env)).any (·.1.isNone)) = false := by rfl) :
    PE X (.Call (.Name x p) [] kws pos) (tCallK0 sp gV E tk) := ⟨fun pins s σ H Q I h => by
  refine wpAny_Call_Name_kw (ld_glob I hg hm (PySem.W.callWith_KW0 (h₀ := X.base) I.ok.mod.kin hk hall (thn (hkw.run pos pins s σ H _ I h) ?_) hpl) hdb)
  rintro ws s2 ⟨zs, H2, I2, rz, q⟩
  have z := hb.rel (vs := []) (us := []) .nil rz
  rw [hks]
  exact ⟨I2.kIn, back (args := ⟨[], ks.zip ws⟩) hx I2 (F.go hgu hr I2.env0 (hb.to s2 [] ws I2.kIn (z.length.symm.trans (F.arity q))) z q)⟩⟩
end

/-! ### the law's end -/
/-- what is tracked when the law is entered: the script, unless it is one of the module's objects -/
def H0 (K : PySem.W.Frag) (a : Addr) (o : Obj) (xs : List V) : Hp := fun b => if b = a ∧ K.lookup a = none then some (.frz o (.lst xs)) else none
theorem H0_at {K : PySem.W.Frag} {a b : Addr} {o : Obj} {xs : List V} {u : HO} (h : H0 K a o xs b = some u) : b = a ∧ K.lookup a = none ∧ u = .frz o (.lst xs) := by
  unfold H0 at h
  by_cases c : b = a ∧ K.lookup a = none
  · rw [if_pos c] at h
    exact ⟨c.1, c.2, (Option.some.inj h).symm⟩
  · rw [if_neg c] at h
    cases h
theorem law_endG {P : Program} {w : World} {K : PySem.W.Frag} {mg mb : Str → Option Value} {CX : CXT} {k : Nat} {fa a : Addr} {fd : FuncData} {x : Str} {sp : Sp} {s : Shared} {vs : List Value} {ns : List Int}
    (KX : K.In s.heap) (hns : s.heap.Ns mainGlobals mg) (hb : s.heap.Ns builtinsNs mb) (hbb : ∀ x : Str, x ≠ "__name__" → mb x = bootBuiltins x) (hlim : s.heap.NoLimit) (hg : s.gens = #[])
    (ha : s.heap.get? a = some { cls := .type "list", data := .seq vs.toArray }) (hi : IntsAre vs ns) (hl : ns.length ≤ sizeLine) (hr : Room k callerA)
    (F : ∀ base : Heap, K.In base → base.Ns mainGlobals mg → FnG P w K mg base CX k fa fd [x] sp) (hbind : ∀ (s : Shared) (u : Value), BindsTo s fd ⟨[u], []⟩ [(x, u)])
    (hsp : ∀ H : Hp, SqL K H a (ns.map V.int) → sp [.ref a] H (fun v _ => v = .bl true) fun _ _ _ => False)
    (hCX : ∀ H e s', CX [] H s (fun _ _ _ => False) e s' → False) :
    codeAny (model P w) callerA (.call (.ref fa) ⟨[.ref a], []⟩) (fun r s' => r = .ok (.ret (.bool true)) ∧ OldK s.heap s'.heap ∧ s'.os = s.os ∧ AllBare s'.gens) s := by
  have rv := vals_ints hi
  let H := H0 K a { cls := .type "list", data := .seq vs.toArray } (ns.map V.int)
  have free : ∀ {b : Addr} {o : Obj}, s.heap.get? b = some o → (∀ xs n, o.data ≠ .seq xs n) → H b = none := fun {b o} e d => by
    cases q : H b with
    | none => rfl
    | some u =>
      obtain ⟨eb, _, _⟩ := H0_at q
      rw [eb, ha] at e
      cases e
      exact absurd rfl (d _ _)
  have nsOf : ∀ {b : Addr} {m : Str → Option Value}, s.heap.Ns b m → (hidT s.heap H).Ns b m := fun ⟨o, es, ep, e, d, r⟩ =>
    ⟨o, es, ep, hidT_get e (free e fun xs n z => by rw [d] at z; cases z), d, r⟩
  have kin : K.In (hidT s.heap H) := fun b o e => hidT_get (KX b o e) (by
    cases q : H b with
    | none => rfl
    | some u =>
      obtain ⟨eb, nk, _⟩ := H0_at q
      rw [eb, nk] at e
      cases e)
  have hok : HOk P w H s.heap := fun b u q => by
    obtain ⟨eb, _, eu⟩ := H0_at q
    rw [eb, eu]
    exact ⟨ha, by rw [List.length_map]; exact hl, vs, _, rv, ha⟩
  have sq : SqL K H a (ns.map V.int) := by
    cases hk : K.lookup a with
    | none => exact .inl (.inr ⟨_, if_pos ⟨rfl, hk⟩⟩)
    | some o =>
      have e := KX a o hk
      rw [ha] at e
      cases e
      exact .inr ⟨_, vs.toArray, _, hk, rfl, rfl, rfl, by rw [List.size_toArray, hi.length]; exact hl, by simpa using rv⟩
  have lim : (hidT s.heap H).NoLimit := by
    obtain ⟨mc, h1, h2⟩ := hlim
    exact ⟨mc, nsOf h1, h2⟩
  have e0 : Env0 P w K mg (hidT s.heap H) callerA [] s H :=
    ⟨rfl, ⟨kin, nsOf hns, ⟨mb, nsOf hb, hbb⟩, lim⟩, fun b o e => of_hidT e, Nat.le_of_eq (hidT_size _ _), trivial, (fun b z => nomatch z), hok, .of_eq hg⟩
  refine codeAny_mono ((F _ kin (nsOf hns)).go rfl hr e0 (us := [.ref a]) (vs := [.ref a]) (hbind s (.ref a)) (.cons rfl .nil) (hsp H sq)) fun r s' h => ?_
  match r, h with
  | .error e, h => exact (hCX H e s' h).elim
  | .ok (.ret u), h =>
    obtain ⟨v, H', os, bare, un, hok', r', q⟩ := h
    have ev : v = .bl true := q
    subst ev
    have eu : u = Value.bool true := r'
    subst eu
    refine ⟨rfl, OldK.of_keep fun b o e => ?_, os, bare⟩
    cases q : H b with
    | none => exact un.keep b o e q (fun z => nomatch z) (fun z => nomatch z)
    | some y =>
      obtain ⟨_, _, ey⟩ := H0_at q
      rw [ey] at q
      have k1 := (hok b _ q).1
      have k2 := (hok' b _ (un.frzs b _ _ q)).1
      rw [e] at k1
      rw [k2, ← k1]
theorem walkG {l : PySem.W.OpenLaw} {n k : Nat} {q : Program} {loose : List Str} {XP : (Str → Option Value) → Heap → Prop} {YP : World → Heap → Prop} {d : DefRec} {K : Params → PySem.W.Frag} {CX : World → CXT} {sp : World → Sp} {x : Str}
    (hn : l.most = some n) (hn2 : n ≤ sizeLine) (hdf : d.params.defaults = []) (hr : Room k callerA) (hY : ∀ (w : World) (h : Heap), YP w h → (K w.params).In h)
    (F : ∀ (w : World) (mg : Str → Option Value) (fa : Addr) (h : Heap), (K w.params).In h → h.Ns mainGlobals mg → mg d.name = some (.ref fa) → ∃ fd : FuncData, (∀ (s : Shared) (u : Value), BindsTo s fd ⟨[u], []⟩ [(x, u)]) ∧
        ∀ base : Heap, (K w.params).In base → base.Ns mainGlobals mg → FnG l.prog w (K w.params) mg base (CX w) k fa fd [x] (sp w))
    (hsp : ∀ (w : World) (H : Hp) (a : Addr) (ns : List Int), ns.length ≤ n → SqL (K w.params) H a (ns.map V.int) → sp w [.ref a] H (fun v _ => v = .bl true) fun _ _ _ => False)
    (hCX : ∀ (w : World) (H : Hp) (s : Shared) (e : Value) (s' : Shared), CX w [] H s (fun _ _ _ => False) e s' → False) : PySem.W.WalkO q loose XP YP l.row.toRowW d [] (fun f vs => PySem.call f vs) :=
  Att.attach_call hn hdf fun w s0 s1 mg mb fa o pm cd doc a vs ns G Y ho hd hcd hmg hobj hints hlen hg =>
    let ⟨_, hb, hF⟩ := F w mg fa _ (hY w _ Y) G.T.g hmg
    law_endG (hY w _ Y) G.T.g G.T.b G.T.builtins G.T.nolimit hg hobj hints (Nat.le_trans hlen hn2) hr hF hb (fun H hS => hsp w H a ns hlen hS) fun H e s' => hCX w H s1 e s'
end Dl

/-! Data: what a def goes on with, without the heap. Immutable things are values (D); what is changed stands at an address, in a store (Mu). -/
namespace Dl
open PySem PySem.Spec PyProof.Rows L2

inductive D where
  | non | bl (b : Bool) | int (i : Int) | str (x : Str) | ty (n : String) | ref (a : Addr)
  | lst (xs : List D) | sq (xs : List D) | tup (xs : List D) | obj (C : Addr) (fs : List (Str × D))
/-- what stands at an address that may change -/
inductive Ob where
  | lst (xs : List D) | dK (kvs : List (Key × D)) | ins (C : Addr) (fs : List (Str × D)) | hid
abbrev Mu := Addr → Option Ob
def mup (μ : Mu) (a : Addr) (o : Ob) : Mu := fun b => if b = a then some o else μ b
theorem mup_same {μ : Mu} {a : Addr} {o : Ob} : mup μ a o a = some o := if_pos rfl
theorem mup_ne {μ : Mu} {a b : Addr} {o : Ob} (h : b ≠ a) : mup μ a o b = μ b := if_neg h

/-- a tuple of the module's written part -/
def KT (K : PySem.W.Frag) (a : Addr) (vs : List V) : Prop :=
  ∃ (o : Obj) (its : Array Value) (n : Nat), K.lookup a = some o ∧ o.cls = .type "tuple" ∧ o.data = .seq its n ∧ its.size ≤ sizeLine ∧ Vals vs its.toList
def KL (K : PySem.W.Frag) (a : Addr) (vs : List V) : Prop :=
  ∃ (o : Obj) (its : Array Value) (n : Nat), K.lookup a = some o ∧ o.cls = .type "list" ∧ o.dict = none ∧ o.data = .seq its n ∧ its.size ≤ sizeLine ∧ Vals vs its.toList

mutual
/-- the value v is the datum d -/
inductive Da (K : PySem.W.Frag) (μ : Mu) (H : Hp) : V → D → Prop
  | non : Da K μ H .non .non
  | bl (b : Bool) : Da K μ H (.bl b) (.bl b)
  | int (i : Int) : Da K μ H (.int i) (.int i)
  | str (x : Str) : Da K μ H (.str x) (.str x)
  | ty (n : String) : Da K μ H (.ty n) (.ty n)
  | ref (a : Addr) : Da K μ H (.ref a) (.ref a)
  | lst {a : Addr} {vs : List V} {ds : List D} : μ a = none → H a = some (.lst vs) → DaL K μ H vs ds → Da K μ H (.ref a) (.lst ds)
  | sq {a : Addr} {vs : List V} {ds : List D} : (μ a = none ∧ Rd H a (.lst vs)) ∨ KL K a vs → DaL K μ H vs ds → Da K μ H (.ref a) (.sq ds)
  | tup {a : Addr} {vs : List V} {ds : List D} : (μ a = none ∧ Rd H a (.tup vs)) ∨ KT K a vs → DaL K μ H vs ds → Da K μ H (.ref a) (.tup ds)
  | obj {a C dx : Addr} {fv : List (Str × V)} {fs : List (Str × D)} : μ a = none → H a = some (.ins C dx fv) → DaF K μ H fv fs → Da K μ H (.ref a) (.obj C fs)
inductive DaL (K : PySem.W.Frag) (μ : Mu) (H : Hp) : List V → List D → Prop
  | nil : DaL K μ H [] []
  | cons {v : V} {d : D} {vs : List V} {ds : List D} : Da K μ H v d → DaL K μ H vs ds → DaL K μ H (v :: vs) (d :: ds)
inductive DaF (K : PySem.W.Frag) (μ : Mu) (H : Hp) : List (Str × V) → List (Str × D) → Prop
  | nil : DaF K μ H [] []
  | cons {n : Str} {v : V} {d : D} {vs : List (Str × V)} {ds : List (Str × D)} : Da K μ H v d → DaF K μ H vs ds → DaF K μ H ((n, v) :: vs) ((n, d) :: ds)
end
inductive DaK (K : PySem.W.Frag) (μ : Mu) (H : Hp) : List (Key × V) → List (Key × D) → Prop
  | nil : DaK K μ H [] []
  | cons {n : Key} {v : V} {d : D} {vs : List (Key × V)} {ds : List (Key × D)} : Da K μ H v d → DaK K μ H vs ds → DaK K μ H ((n, v) :: vs) ((n, d) :: ds)

def ObOk (K : PySem.W.Frag) (μ : Mu) (H : Hp) (a : Addr) : Ob → Prop
  | .lst xs => ∃ vs, H a = some (.lst vs) ∧ DaL K μ H vs xs
  | .dK kvs => ∃ vs, H a = some (.dK vs) ∧ DaK K μ H vs kvs
  | .ins C fs => ∃ dx fv, H a = some (.ins C dx fv) ∧ DaF K μ H fv fs
  | .hid => H a ≠ none
/-- the store is held -/
def J (K : PySem.W.Frag) (μ : Mu) (H : Hp) : Prop := ∀ a o, μ a = some o → ObOk K μ H a o
theorem ObOk.some {K : PySem.W.Frag} {μ : Mu} {H : Hp} {a : Addr} : ∀ {o : Ob}, ObOk K μ H a o → H a ≠ none
  | .lst _, ⟨_, e, _⟩ => by rw [e]; simp
  | .dK _, ⟨_, e, _⟩ => by rw [e]; simp
  | .ins _ _, ⟨_, _, e, _⟩ => by rw [e]; simp
  | .hid, e => e
theorem J.free {K : PySem.W.Frag} {μ : Mu} {H : Hp} {a : Addr} (j : J K μ H) (h : H a = none) : μ a = none := by
  cases q : μ a with
  | none => rfl
  | some o => exact absurd h (j a o q).some

/-- what may happen: what is not in the store stays, the store only grows, by new addresses -/
structure Gr (μ : Mu) (H : Hp) (μ' : Mu) (H' : Hp) : Prop where
  keep : ∀ b o, μ b = none → H b = some o → H' b = some o
  dom : ∀ b, μ b ≠ none → μ' b ≠ none
  new : ∀ b, μ b = none → μ' b ≠ none → H b = none
  hid : ∀ b o, μ b = some .hid → H b = some o → μ' b = some .hid ∧ H' b = some o
section
variable {K : PySem.W.Frag} {μ μ1 μ2 : Mu} {H H1 H2 : Hp} {a : Addr} {v : V} {d : D}
theorem Gr.refl : Gr μ H μ H := ⟨fun _ _ _ h => h, fun _ h => h, fun _ h h' => absurd h h', fun _ _ h h' => ⟨h, h'⟩⟩
theorem Gr.out (g : Gr μ H μ1 H1) {b : Addr} {o : HO} (n : μ b = none) (h : H b = some o) : μ1 b = none := by
  cases q : μ1 b with
  | none => rfl
  | some u =>
    have := g.new b n (by rw [q]; simp)
    rw [h] at this
    cases this
theorem Gr.trans (g : Gr μ H μ1 H1) (g' : Gr μ1 H1 μ2 H2) : Gr μ H μ2 H2 where
  keep := fun b o n h => g'.keep b o (g.out n h) (g.keep b o n h)
  dom := fun b h => g'.dom b (g.dom b h)
  new := fun b n h => by
    by_cases q : μ1 b = none
    · cases z : H b with
      | none => rfl
      | some o =>
        have := g'.new b q h
        rw [g.keep b o n z] at this
        cases this
    · exact g.new b n q
  hid := fun b o h h' => let ⟨a1, a2⟩ := g.hid b o h h'; g'.hid b o a1 a2
theorem Gr.rd (g : Gr μ H μ1 H1) {b : Addr} {u : HO} (n : μ b = none) (h : Rd H b u) : μ1 b = none ∧ Rd H1 b u := by
  rcases h with h | ⟨o, h⟩
  · exact ⟨g.out n h, .inl (g.keep b _ n h)⟩
  · exact ⟨g.out n h, .inr ⟨o, g.keep b _ n h⟩⟩
mutual
theorem Da.grow (g : Gr μ H μ1 H1) : ∀ {v : V} {d : D}, Da K μ H v d → Da K μ1 H1 v d
  | _, _, .non => .non
  | _, _, .bl b => .bl b
  | _, _, .int i => .int i
  | _, _, .str x => .str x
  | _, _, .ty n => .ty n
  | _, _, .ref a => .ref a
  | _, _, .lst n h l => .lst (g.out n h) (g.keep _ _ n h) (DaL.grow g l)
  | _, _, .sq (.inl ⟨n, h⟩) l => .sq (.inl (g.rd n h)) (DaL.grow g l)
  | _, _, .sq (.inr h) l => .sq (.inr h) (DaL.grow g l)
  | _, _, .tup (.inl ⟨n, h⟩) l => .tup (.inl (g.rd n h)) (DaL.grow g l)
  | _, _, .tup (.inr h) l => .tup (.inr h) (DaL.grow g l)
  | _, _, .obj n h l => .obj (g.out n h) (g.keep _ _ n h) (DaF.grow g l)
theorem DaL.grow (g : Gr μ H μ1 H1) : ∀ {vs : List V} {ds : List D}, DaL K μ H vs ds → DaL K μ1 H1 vs ds
  | _, _, .nil => .nil
  | _, _, .cons h l => .cons (Da.grow g h) (DaL.grow g l)
theorem DaF.grow (g : Gr μ H μ1 H1) : ∀ {vs : List (Str × V)} {ds : List (Str × D)}, DaF K μ H vs ds → DaF K μ1 H1 vs ds
  | _, _, .nil => .nil
  | _, _, .cons h l => .cons (Da.grow g h) (DaF.grow g l)
end
theorem DaK.grow (g : Gr μ H μ1 H1) : ∀ {vs : List (Key × V)} {ds : List (Key × D)}, DaK K μ H vs ds → DaK K μ1 H1 vs ds
  | _, _, .nil => .nil
  | _, _, .cons h l => .cons (Da.grow g h) (DaK.grow g l)
theorem ObOk.grow (g : Gr μ H μ1 H1) (e : H1 a = H a) : ∀ {o : Ob}, ObOk K μ H a o → ObOk K μ1 H1 a o
  | .lst _, ⟨vs, h, l⟩ => ⟨vs, e.trans h, l.grow g⟩
  | .dK _, ⟨vs, h, l⟩ => ⟨vs, e.trans h, l.grow g⟩
  | .ins _ _, ⟨dx, fv, h, l⟩ => ⟨dx, fv, e.trans h, l.grow g⟩
  | .hid, h => fun z => h (e.symm.trans z)
theorem DaL.length : ∀ {vs : List V} {ds : List D}, DaL K μ H vs ds → vs.length = ds.length
  | _, _, .nil => rfl
  | _, _, .cons _ l => congrArg (· + 1) l.length
theorem DaL.get : ∀ {vs : List V} {ds : List D} {i : Nat} {d : D}, DaL K μ H vs ds → ds[i]? = some d → ∃ v, vs[i]? = some v ∧ Da K μ H v d
  | _, _, _, _, .nil, e => by simp at e
  | _, _, 0, _, .cons h _, e => by simp at e; subst e; exact ⟨_, rfl, h⟩
  | _, _, i + 1, d, .cons _ l, e => by
    obtain ⟨v, h1, h2⟩ := DaL.get (i := i) (d := d) l (by simpa using e)
    exact ⟨v, by simpa using h1, h2⟩
theorem DaL.got : ∀ {vs : List V} {ds : List D} {i : Nat} {v : V}, DaL K μ H vs ds → vs[i]? = some v → ∃ d, ds[i]? = some d ∧ Da K μ H v d
  | _, _, _, _, .nil, e => by simp at e
  | _, _, 0, _, .cons h _, e => by simp at e; subst e; exact ⟨_, rfl, h⟩
  | _, _, i + 1, d, .cons _ l, e => by
    obtain ⟨v, h1, h2⟩ := DaL.got (i := i) (v := d) l (by simpa using e)
    exact ⟨v, by simpa using h1, h2⟩
theorem DaL.append : ∀ {vs ws : List V} {ds es : List D}, DaL K μ H vs ds → DaL K μ H ws es → DaL K μ H (vs ++ ws) (ds ++ es)
  | _, _, _, _, .nil, s => s
  | _, _, _, _, .cons h l, s => .cons h (l.append s)
theorem DaL.take : ∀ {vs : List V} {ds : List D} (n : Nat), DaL K μ H vs ds → DaL K μ H (vs.take n) (ds.take n)
  | _, _, 0, _ => .nil
  | _, _, _ + 1, .nil => .nil
  | _, _, n + 1, .cons h l => .cons h (l.take n)
theorem DaL.drop : ∀ {vs : List V} {ds : List D} (n : Nat), DaL K μ H vs ds → DaL K μ H (vs.drop n) (ds.drop n)
  | _, _, 0, h => h
  | _, _, _ + 1, .nil => .nil
  | _, _, n + 1, .cons _ l => l.drop n
theorem DaL.rev : ∀ {vs : List V} {ds : List D}, DaL K μ H vs ds → DaL K μ H vs.reverse ds.reverse
  | _, _, .nil => .nil
  | _, _, .cons h l => by
    rw [List.reverse_cons, List.reverse_cons]
    exact l.rev.append (.cons h .nil)
theorem DaL.set {v : V} {d : D} (h : Da K μ H v d) : ∀ {vs : List V} {ds : List D} (i : Nat), DaL K μ H vs ds → DaL K μ H (vs.set i v) (ds.set i d)
  | _, _, _, .nil => .nil
  | _, _, 0, .cons _ l => .cons h l
  | _, _, i + 1, .cons q l => .cons q (DaL.set h i l)
theorem DaL.ints : ∀ (ns : List Int), DaL K μ H (ns.map V.int) (ns.map D.int)
  | [] => .nil
  | n :: ns => .cons (.int n) (DaL.ints ns)
theorem DaL.ofInts : ∀ {vs : List V} {ns : List Int}, DaL K μ H vs (ns.map D.int) → vs = ns.map V.int
  | _, [], .nil => rfl
  | _, n :: ns, .cons h l => by
    cases h
    rw [DaL.ofInts l, List.map_cons]
theorem Da.sqT {vs : List V} (h : (μ a = none ∧ Rd H a (.tup vs)) ∨ KT K a vs) : SqT K H a vs := h.elim (fun q => .inl q.2) .inr
theorem Da.sqL {vs : List V} (h : (μ a = none ∧ Rd H a (.lst vs)) ∨ KL K a vs) : SqL K H a vs := h.elim (fun q => .inl q.2) .inr

/-- a new datum -/
theorem Gr.laid {o : HO} (n : H a = none) : Gr μ H μ (upd H a o) :=
  ⟨fun b u _ h => by rw [upd_ne (ne_of_none h n)]; exact h, fun _ h => h, fun _ h h' => absurd h h', fun b o h h' => ⟨h, by rw [upd_ne (ne_of_none h' n)]; exact h'⟩⟩
theorem J.laid {o : HO} (j : J K μ H) (n : H a = none) : J K μ (upd H a o) := fun b u q =>
  (j b u q).grow (Gr.laid n) (upd_ne fun (e : b = a) => (j b u q).some (by rw [e]; exact n))
/-- a new thing that may change -/
theorem Gr.born {o : HO} {u : Ob} (n : H a = none) : Gr μ H (mup μ a u) (upd H a o) where
  hid := fun b x h h' => ⟨by rw [mup_ne (ne_of_none h' n)]; exact h, by rw [upd_ne (ne_of_none h' n)]; exact h'⟩
  keep := fun b x _ h => by rw [upd_ne (ne_of_none h n)]; exact h
  dom := fun b h => by
    by_cases e : b = a
    · rw [e, mup_same]; simp
    · rw [mup_ne e]; exact h
  new := fun b h h' => by
    by_cases e : b = a
    · rw [e]; exact n
    · rw [mup_ne e] at h'; exact absurd h h'
theorem J.born {o : HO} {u : Ob} (j : J K μ H) (n : H a = none) (ok : ObOk K (mup μ a u) (upd H a o) a u) : J K (mup μ a u) (upd H a o) := fun b x q => by
  by_cases e : b = a
  · subst e
    rw [mup_same] at q
    cases q
    exact ok
  · rw [mup_ne e] at q
    exact (j b x q).grow (Gr.born n) (upd_ne e)
/-- a thing changes -/
theorem Gr.turn {o : HO} {u u' : Ob} (h : μ a = some u) (nh : u ≠ .hid := by exact fun z => nomatch z) : Gr μ H (mup μ a u') (upd H a o) where
  hid := fun b x q q' => by
    have e : b ≠ a := fun e => nh (by rw [e, h] at q; exact Option.some.inj q)
    exact ⟨by rw [mup_ne e]; exact q, by rw [upd_ne e]; exact q'⟩
  keep := fun b x n q => by rw [upd_ne fun e => by rw [e, h] at n; cases n]; exact q
  dom := fun b q => by
    by_cases e : b = a
    · rw [e, mup_same]; simp
    · rw [mup_ne e]; exact q
  new := fun b n q => by
    by_cases e : b = a
    · rw [e, h] at n; cases n
    · rw [mup_ne e] at q; exact absurd n q
theorem J.turn {o : HO} {u u' : Ob} (j : J K μ H) (h : μ a = some u) (ok : ObOk K (mup μ a u') (upd H a o) a u') (nh : u ≠ .hid := by exact fun z => nomatch z) : J K (mup μ a u') (upd H a o) := fun b x q => by
  by_cases e : b = a
  · subst e
    rw [mup_same] at q
    cases q
    exact ok
  · rw [mup_ne e] at q
    exact (j b x q).grow (Gr.turn h nh) (upd_ne e)
end
end Dl

namespace Dl
open PySem PySem.Spec PyProof.Rows L2

/-! ### data as the library reads it -/
mutual
def py : D → PyData
  | .non => .none
  | .bl b => .bool b
  | .int i => .int i
  | .str x => .str x
  | .ty _ => .none
  | .ref _ => .none
  | .lst xs => .list (pyL xs)
  | .sq xs => .list (pyL xs)
  | .tup xs => .tuple (pyL xs)
  | .obj _ _ => .none
def pyL : List D → List PyData
  | [] => []
  | x :: xs => py x :: pyL xs
end
mutual
/-- made of None, bools, ints, texts, lists, tuples alone -/
def pur : D → Bool
  | .non => true
  | .bl _ => true
  | .int _ => true
  | .str _ => true
  | .ty _ => false
  | .ref _ => false
  | .lst xs => purL xs
  | .sq xs => purL xs
  | .tup xs => purL xs
  | .obj _ _ => false
def purL : List D → Bool
  | [] => true
  | x :: xs => pur x && purL xs
end
mutual
theorem py_plain : ∀ d : D, (py d).plain = true
  | .non => by simp only [py, PyData.plain]
  | .bl b => by simp only [py, PyData.plain]
  | .int i => by simp only [py, PyData.plain]
  | .str x => by simp only [py, PyData.plain]
  | .ty _ => by simp only [py, PyData.plain]
  | .ref _ => by simp only [py, PyData.plain]
  | .lst xs => by simp only [py, PyData.plain]; exact pyL_plain xs
  | .sq xs => by simp only [py, PyData.plain]; exact pyL_plain xs
  | .tup xs => by simp only [py, PyData.plain]; exact pyL_plain xs
  | .obj _ _ => by simp only [py, PyData.plain]
theorem pyL_plain : ∀ ds : List D, PyData.plainAll (pyL ds) = true
  | [] => by simp only [pyL, PyData.plainAll]
  | x :: xs => by simp only [pyL, PyData.plainAll, py_plain x, pyL_plain xs, Bool.and_self]
end
mutual
theorem Da.dp {K : PySem.W.Frag} {μ : Mu} {H : Hp} : ∀ {v : V} {d : D}, Da K μ H v d → pur d = true → Dp K H v (py d)
  | _, _, .non, _ => by simp only [py]; exact .non
  | _, _, .bl b, _ => by simp only [py]; exact .bl b
  | _, _, .int i, _ => by simp only [py]; exact .int i
  | _, _, .str x, _ => by simp only [py]; exact .str x
  | _, _, .ty n, h => by simp [pur] at h
  | _, _, .ref a, h => by simp [pur] at h
  | _, _, .lst n e l, h => by simp only [py]; exact .lst (SqL.of e) (DaL.dp l (by simpa only [pur] using h))
  | _, _, .sq e l, h => by simp only [py]; exact .lst (Da.sqL e) (DaL.dp l (by simpa only [pur] using h))
  | _, _, .tup e l, h => by simp only [py]; exact .tup (Da.sqT e) (DaL.dp l (by simpa only [pur] using h))
  | _, _, .obj _ _ _, h => by simp [pur] at h
theorem DaL.dp {K : PySem.W.Frag} {μ : Mu} {H : Hp} : ∀ {vs : List V} {ds : List D}, DaL K μ H vs ds → purL ds = true → DpAll K H vs (pyL ds)
  | _, _, .nil, _ => by simp only [pyL]; exact .nil
  | _, _, .cons h l, q => by
    simp only [purL, Bool.and_eq_true] at q
    simp only [pyL]
    exact .cons (Da.dp h q.1) (DaL.dp l q.2)
end
/-- a list that may change, as the list that it is now -/
def vw (μ : Mu) : D → D
  | .ref a => match μ a with
    | some (.lst xs) => .lst xs
    | _ => .ref a
  | d => d
theorem Da.vdp {K : PySem.W.Frag} {μ : Mu} {H : Hp} {v : V} {d : D} (j : J K μ H) (h : Da K μ H v d) (p : pur (vw μ d) = true) : Dp K H v (py (vw μ d)) := by
  cases d with
  | ref a =>
    cases h
    cases q : μ a with
    | none => simp [vw, q, pur] at p
    | some o =>
      cases o with
      | lst xs =>
        obtain ⟨vs, e, l⟩ := j a _ q
        simp only [vw, q, pur] at p ⊢
        simp only [py]
        exact .lst (SqL.of e) (l.dp p)
      | dK kvs => simp [vw, q, pur] at p
      | ins C fs => simp [vw, q, pur] at p
      | hid => simp [vw, q, pur] at p
  | _ => exact h.dp p

/-! ### the judgements -/
abbrev Ro := List (Option D)
abbrev DQ := D → Mu → Prop
abbrev DE := Ro → Mu → DQ → Prop
abbrev DT := Ro → Mu → (Bool → Mu → Prop) → Prop
abbrev DA := Ro → Mu → (List D → Mu → Prop) → Prop
structure Okd (K : PySem.W.Frag) (μ : Mu) (H : Hp) (σ : L2.St) (ρ : Ro) : Prop where
  j : J K μ H
  len : σ.length = ρ.length
  of : ∀ (i : Nat) (d : D), ρ[i]? = some (some d) → ∃ v, σ[i]? = some (some v) ∧ Da K μ H v d
/-- what is wanted, below and above -/
def Kt (K : PySem.W.Frag) (μ : Mu) (H : Hp) (Q : VK) (Qd : DQ) : Prop := ∀ v d H' μ', Gr μ H μ' H' → J K μ' H' → Da K μ' H' v d → Qd d μ' → Q v H'
def KtL (K : PySem.W.Frag) (μ : Mu) (H : Hp) (Q : List V → Hp → Prop) (Qd : List D → Mu → Prop) : Prop := ∀ v d H' μ', Gr μ H μ' H' → J K μ' H' → DaL K μ' H' v d → Qd d μ' → Q v H'
def KtB (K : PySem.W.Frag) (μ : Mu) (H : Hp) (Q : Bool → Hp → Prop) (Qd : Bool → Mu → Prop) : Prop := ∀ b H' μ', Gr μ H μ' H' → J K μ' H' → Qd b μ' → Q b H'
section
variable {K : PySem.W.Frag} {μ μ1 : Mu} {H H1 : Hp} {σ : L2.St} {ρ : Ro}
theorem Okd.grow (o : Okd K μ H σ ρ) (g : Gr μ H μ1 H1) (j : J K μ1 H1) : Okd K μ1 H1 σ ρ := ⟨j, o.len, fun i d e => let ⟨v, e1, h⟩ := o.of i d e; ⟨v, e1, h.grow g⟩⟩
theorem Okd.set (o : Okd K μ H σ ρ) {v : V} {d : D} (i : Nat) (h : Da K μ H v d) : Okd K μ H (σ.set i (some v)) (ρ.set i (some d)) := by
  refine ⟨o.j, by simpa using o.len, fun k e he => ?_⟩
  by_cases hk : k = i
  · subst hk
    by_cases hl : k < ρ.length
    · rw [List.getElem?_set_self hl] at he
      cases he
      exact ⟨v, List.getElem?_set_self (by rw [o.len]; exact hl), h⟩
    · rw [List.getElem?_eq_none (by simpa using hl)] at he
      cases he
  · rw [List.getElem?_set_ne (Ne.symm hk)] at he ⊢
    exact o.of k e he
theorem Kt.after {Q : VK} {Qd : DQ} (k : Kt K μ H Q Qd) (g : Gr μ H μ1 H1) : Kt K μ1 H1 Q Qd := fun v d H' μ' g' j h q => k v d H' μ' (g.trans g') j h q
theorem KtL.after {Q : List V → Hp → Prop} {Qd : List D → Mu → Prop} (k : KtL K μ H Q Qd) (g : Gr μ H μ1 H1) : KtL K μ1 H1 Q Qd := fun v d H' μ' g' j h q => k v d H' μ' (g.trans g') j h q
theorem KtB.after {Q : Bool → Hp → Prop} {Qd : Bool → Mu → Prop} (k : KtB K μ H Q Qd) (g : Gr μ H μ1 H1) : KtB K μ1 H1 Q Qd := fun b H' μ' g' j q => k b H' μ' (g.trans g') j q
theorem Kt.now {Q : VK} {Qd : DQ} (k : Kt K μ H Q Qd) (j : J K μ H) {v : V} {d : D} (h : Da K μ H v d) (q : Qd d μ) : Q v H := k v d H μ Gr.refl j h q
/-- a new datum -/
theorem Kt.new {Q : VK} {Qd : DQ} (k : Kt K μ H Q Qd) (j : J K μ H) {p : Addr} {o : HO} {d : D} (n : H p = none) (h : Da K μ (upd H p o) (.ref p) d) (q : Qd d μ) : Q (.ref p) (upd H p o) :=
  k _ d _ μ (Gr.laid n) (j.laid n) h q
theorem da_tup {vs : List V} {ds : List D} {p : Addr} (j : J K μ H) (n : H p = none) (l : DaL K μ H vs ds) : Da K μ (upd H p (.tup vs)) (.ref p) (.tup ds) := .tup (.inl ⟨j.free n, .inl upd_same⟩) (l.grow (Gr.laid n))
theorem da_lst {vs : List V} {ds : List D} {p : Addr} (j : J K μ H) (n : H p = none) (l : DaL K μ H vs ds) : Da K μ (upd H p (.lst vs)) (.ref p) (.lst ds) := .lst (j.free n) upd_same (l.grow (Gr.laid n))
end

structure PD (X : Cx) (e : Expr) (t : DE) : Prop where
  ex : ∃ te, PE X e te ∧ ∀ {σ : L2.St} {H : Hp} {ρ : Ro} {μ : Mu} {Q : VK} {Qd : DQ}, Okd X.K μ H σ ρ → t ρ μ Qd → Kt X.K μ H Q Qd → te σ H Q
structure PDT (X : Cx) (e : Expr) (t : DT) : Prop where
  ex : ∃ te, PT X e te ∧ ∀ {σ : L2.St} {H : Hp} {ρ : Ro} {μ : Mu} {Q : Bool → Hp → Prop} {Qd : Bool → Mu → Prop}, Okd X.K μ H σ ρ → t ρ μ Qd → KtB X.K μ H Q Qd → te σ H Q
structure PDW (X : Cx) (e : Expr) (t : DT) : Prop where
  ex : ∃ te, PW X e te ∧ ∀ {σ : L2.St} {H : Hp} {ρ : Ro} {μ : Mu} {Q : Bool → Hp → Prop} {Qd : Bool → Mu → Prop}, Okd X.K μ H σ ρ → t ρ μ Qd → KtB X.K μ H Q Qd → te σ H Q
structure PDA (X : Cx) (es : List Expr) (t : DA) : Prop where
  ex : ∃ te, PA X es te ∧ ∀ {σ : L2.St} {H : Hp} {ρ : Ro} {μ : Mu} {Q : List V → Hp → Prop} {Qd : List D → Mu → Prop}, Okd X.K μ H σ ρ → t ρ μ Qd → KtL X.K μ H Q Qd → te σ H Q
structure PDK (X : Cx) (es : List Keyword) (t : DA) : Prop where
  ex : ∃ te, PK X es te ∧ ∀ {σ : L2.St} {H : Hp} {ρ : Ro} {μ : Mu} {Q : List V → Hp → Prop} {Qd : List D → Mu → Prop}, Okd X.K μ H σ ρ → t ρ μ Qd → KtL X.K μ H Q Qd → te σ H Q

/-! ### expressions -/
def slot : Ro → Nat → Option D
  | [], _ => none
  | x :: _, 0 => x
  | _ :: r, n + 1 => slot r n
theorem slot_get : ∀ {ρ : Ro} {i : Nat} {d : D}, slot ρ i = some d → ρ[i]? = some (some d)
  | [], _, _, h => by simp [slot] at h
  | x :: _, 0, d, h => by simp only [slot] at h; subst h; rfl
  | _ :: r, n + 1, d, h => by simpa using slot_get (ρ := r) (i := n) (d := d) h
def dVar (i : Nat) : DE := fun ρ μ Q => match slot ρ i with
  | some d => Q d μ
  | none => False
def dC (d : D) : DE := fun _ μ Q => Q d μ
abbrev G2 := D → D → Mu → DQ → Prop
def dOp (g : G2) (ta tb : DE) : DE := fun ρ μ Q => ta ρ μ fun x μ1 => tb ρ μ1 fun y μ2 => g x y μ2 Q
def dNil : DA := fun _ μ Q => Q [] μ
def dCons (ta : DE) (tr : DA) : DA := fun ρ μ Q => ta ρ μ fun x μ1 => tr ρ μ1 fun xs μ2 => Q (x :: xs) μ2
/-- an operation on values and on data -/
def Lf2 (K : PySem.W.Frag) (r : R2) (g : G2) : Prop := ∀ {x y : V} {dx dy : D} {H : Hp} {μ : Mu} {Q : VK} {Qd : DQ}, J K μ H → Da K μ H x dx → Da K μ H y dy → g dx dy μ Qd → Kt K μ H Q Qd → r x y H Q
def Lf1 (K : PySem.W.Frag) (r : V → Hp → VK → Prop) (g : D → Mu → DQ → Prop) : Prop := ∀ {x : V} {dx : D} {H : Hp} {μ : Mu} {Q : VK} {Qd : DQ}, J K μ H → Da K μ H x dx → g dx μ Qd → Kt K μ H Q Qd → r x H Q
def LfL (K : PySem.W.Frag) (r : List V → Hp → VK → Prop) (g : List D → Mu → DQ → Prop) : Prop := ∀ {xs : List V} {ds : List D} {H : Hp} {μ : Mu} {Q : VK} {Qd : DQ}, J K μ H → DaL K μ H xs ds → g ds μ Qd → Kt K μ H Q Qd → r xs H Q
section
variable {X : Cx} {a b e : Expr} {es : List Expr} {ta tb te : DE} {tA : DA} {pos p : Pos}
theorem pd_var (i : Nat) {x : Str} (hN : X.N[i]? = some x := by rfl) (hv : Vis X.env.scope x := by first | exact Or.inl rfl | exact Or.inr (Or.inl rfl) | exact Or.inr (Or.inr rfl)) (hd : (x == ("__debug__" : Str)) = false := by decide)
    (hcd : (x == ("__classdict__" : Str)) = false := by decide) : PD X (.Name x pos) (dVar i) := by
  refine ⟨_, pe_var hN hv hd hcd, @fun σ H ρ μ Q Qd o t k => ?_⟩
  unfold dVar at t
  cases q : slot ρ i with
  | none => rw [q] at t; exact t.elim
  | some d =>
    rw [q] at t
    obtain ⟨v, e, h⟩ := o.of i d (slot_get q)
    exact ⟨v, e, k.now o.j h t⟩
/-- a written constant, a constant of the module -/
theorem pd_k {v : V} {d : D} (h : PE X e (tC v)) (hd : ∀ μ H, Da X.K μ H v d) : PD X e (dC d) := ⟨_, h, @fun σ H ρ μ Q Qd o t k => k.now o.j (hd μ H) t⟩
theorem pd_int {i j} : PD X (.Constant (.int i) j pos) (dC (.int i)) := pd_k pe_int fun _ _ => .int i
theorem pd_str {i j} : PD X (.Constant (.str i) j pos) (dC (.str i)) := pd_k pe_str fun _ _ => .str i
theorem pd_bl {i j} : PD X (.Constant (.bool i) j pos) (dC (.bl i)) := pd_k pe_bl fun _ _ => .bl i
theorem pd_non {j} : PD X (.Constant .none j pos) (dC .non) := pd_k pe_non fun _ _ => .non
theorem pd_glob {x : Str} {v : V} {u : Value} {d : D} (hm : X.mg x = some u) (r : RelV v u) (hd : ∀ μ H, Da X.K μ H v d) (hg : Gl X x) (hdb : (x == ("__debug__" : Str)) = false := by decide) : PD X (.Name x pos) (dC d) := pd_k (pe_glob hg hm r hdb) hd

theorem pd_gs {x z : Str} (h : ∃ t, X.mg x = some (.str z t)) (hg : Gl X x := by rfl) (hdb : (x == ("__debug__" : Str)) = false := by decide) : PD X (.Name x pos) (dC (.str z)) :=
  pd_glob (v := .str z) h.choose_spec ⟨_, rfl⟩ (fun _ _ => .str z) hg hdb
theorem pd_gi {x : Str} {z : Int} (h : ∃ t, X.mg x = some (.int z t)) (hg : Gl X x := by rfl) (hdb : (x == ("__debug__" : Str)) = false := by decide) : PD X (.Name x pos) (dC (.int z)) :=
  pd_glob (v := .int z) h.choose_spec ⟨_, rfl⟩ (fun _ _ => .int z) hg hdb

theorem pd_op {op : Operator} {r : R2} {g : G2} (ho : OpR X (binaryOp op) r) (hg : Lf2 X.K r g) (ha : PD X a ta) (hb : PD X b tb) : PD X (.BinOp a op b pos) (dOp g ta tb) := by
  obtain ⟨ea, pa, fa⟩ := ha.ex
  obtain ⟨eb, pb, fb⟩ := hb.ex
  refine ⟨_, pe_op ho pa pb, @fun σ H ρ μ Q Qd o t k => ?_⟩
  refine fa o t fun x dx H1 μ1 g1 j1 h1 t1 => ?_
  refine fb (o.grow g1 j1) t1 fun y dy H2 μ2 g2 j2 h2 t2 => ?_
  exact hg j2 (h1.grow g2) h2 t2 (k.after (g1.trans g2))
theorem pd_cmp {op : CmpOp} {r : R2} {g : G2} (ho : OpR X (compareOp op) r) (hg : Lf2 X.K r g) (ha : PD X a ta) (hb : PD X b tb) (hm : behindInMarks op b = false) : PD X (.Compare a [op] [b] pos) (dOp g ta tb) := by
  obtain ⟨ea, pa, fa⟩ := ha.ex
  obtain ⟨eb, pb, fb⟩ := hb.ex
  refine ⟨_, pe_cmpR ho pa pb hm, @fun σ H ρ μ Q Qd o t k => ?_⟩
  refine fa o t fun x dx H1 μ1 g1 j1 h1 t1 => ?_
  refine fb (o.grow g1 j1) t1 fun y dy H2 μ2 g2 j2 h2 t2 => ?_
  exact hg j2 (h1.grow g2) h2 t2 (k.after (g1.trans g2))
theorem pd_ix {r : R2} {g : G2} (ho : IxR X r) (hg : Lf2 X.K r g) (ha : PD X a ta) (hb : PD X b tb) (hs : PlainIx b := by exact fun _ _ => rfl) : PD X (.Subscript a b pos) (dOp g ta tb) := by
  obtain ⟨ea, pa, fa⟩ := ha.ex
  obtain ⟨eb, pb, fb⟩ := hb.ex
  refine ⟨_, pe_ix ho pa pb hs, @fun σ H ρ μ Q Qd o t k => ?_⟩
  refine fa o t fun x dx H1 μ1 g1 j1 h1 t1 => ?_
  refine fb (o.grow g1 j1) t1 fun y dy H2 μ2 g2 j2 h2 t2 => ?_
  exact hg j2 (h1.grow g2) h2 t2 (k.after (g1.trans g2))
def dUn (g : D → Mu → DQ → Prop) (ta : DE) : DE := fun ρ μ Q => ta ρ μ fun x μ1 => g x μ1 Q
theorem pd_un {op : UnaryOp} {r : V → Hp → VK → Prop} {g : D → Mu → DQ → Prop} (ho : UnR X (unaryOp op) r) (hg : Lf1 X.K r g) (ha : PD X a ta) : PD X (.UnaryOp op a pos) (dUn g ta) := by
  obtain ⟨ea, pa, fa⟩ := ha.ex
  refine ⟨_, pe_un ho pa, @fun σ H ρ μ Q Qd o t k => ?_⟩
  exact fa o t fun x dx H1 μ1 g1 j1 h1 t1 => hg j1 h1 t1 (k.after g1)

/-! argument lists, displays -/
theorem pda_nil : PDA X [] dNil := ⟨_, pa_nil, @fun σ H ρ μ Q Qd o t k => k _ _ _ _ Gr.refl o.j .nil t⟩
theorem pda_cons (ha : PD X e te) (hr : PDA X es tA) (hs : starEach (e :: es) X.env = (false, eval e X.env) :: starEach es X.env := by rfl) : PDA X (e :: es) (dCons te tA) := by
  obtain ⟨ea, pa, fa⟩ := ha.ex
  obtain ⟨eb, pb, fb⟩ := hr.ex
  refine ⟨_, pa_cons pa pb hs, @fun σ H ρ μ Q Qd o t k => ?_⟩
  refine fa o t fun x dx H1 μ1 g1 j1 h1 t1 => ?_
  refine fb (o.grow g1 j1) t1 fun y dy H2 μ2 g2 j2 h2 t2 => ?_
  exact k _ _ _ _ (g1.trans g2) j2 (.cons (h1.grow g2) h2) t2
theorem pdk_nil : PDK X [] dNil := ⟨_, pk_nil, @fun σ H ρ μ Q Qd o t k => k _ _ _ _ Gr.refl o.j .nil t⟩
theorem pdk_cons {kws : List Keyword} {nm : Option Str} {kpos : Pos} (ha : PD X e te) (hr : PDK X kws tA) : PDK X (⟨nm, e, kpos⟩ :: kws) (dCons te tA) := by
  obtain ⟨ea, pa, fa⟩ := ha.ex
  obtain ⟨eb, pb, fb⟩ := hr.ex
  refine ⟨_, pk_cons pa pb, @fun σ H ρ μ Q Qd o t k => ?_⟩
  refine fa o t fun x dx H1 μ1 g1 j1 h1 t1 => ?_
  refine fb (o.grow g1 j1) t1 fun y dy H2 μ2 g2 j2 h2 t2 => ?_
  exact k _ _ _ _ (g1.trans g2) j2 (.cons (h1.grow g2) h2) t2
def dTup (t : DA) : DE := fun ρ μ Q => t ρ μ fun xs μ1 => xs.length ≤ sizeLine ∧ Q (.tup xs) μ1
def dLst (t : DA) : DE := fun ρ μ Q => t ρ μ fun xs μ1 => xs.length ≤ sizeLine ∧ Q (.lst xs) μ1
/-- a list that will be changed -/
def dLstM (t : DA) : DE := fun ρ μ Q => t ρ μ fun xs μ1 => xs.length ≤ sizeLine ∧ ∀ p, μ1 p = none → Q (.ref p) (mup μ1 p (.lst xs))
theorem pd_tup {x1} (h : PDA X es tA) : PD X (.Tuple es x1 pos) (dTup tA) := by
  obtain ⟨ea, pa, fa⟩ := h.ex
  refine ⟨_, pe_tup pa, @fun σ H ρ μ Q Qd o t k => ?_⟩
  refine fa o t fun x dx H1 μ1 g1 j1 h1 t1 => ⟨h1.length ▸ t1.1, fun p n => ?_⟩
  exact (k.after g1).new j1 n (da_tup j1 n h1) t1.2
theorem pd_lst (h : PDA X es tA) : PD X (.List es pos) (dLst tA) := by
  obtain ⟨ea, pa, fa⟩ := h.ex
  refine ⟨_, pe_lst pa, @fun σ H ρ μ Q Qd o t k => ?_⟩
  refine fa o t fun x dx H1 μ1 g1 j1 h1 t1 => ⟨h1.length ▸ t1.1, fun p n => ?_⟩
  exact (k.after g1).new j1 n (da_lst j1 n h1) t1.2
theorem pd_lstM (h : PDA X es tA) : PD X (.List es pos) (dLstM tA) := by
  obtain ⟨ea, pa, fa⟩ := h.ex
  refine ⟨_, pe_lst pa, @fun σ H ρ μ Q Qd o t k => ?_⟩
  refine fa o t fun x dx H1 μ1 g1 j1 h1 t1 => ⟨h1.length ▸ t1.1, fun p n => ?_⟩
  exact (k.after g1) _ _ _ _ (Gr.born n) (j1.born (u := .lst dx) n ⟨_, upd_same, h1.grow (Gr.born n)⟩) (.ref p) (t1.2 p (j1.free n))

/-! calls -/
def dCB (g : List D → Mu → DQ → Prop) (t : DA) : DE := fun ρ μ Q => t ρ μ fun ds μ1 => g ds μ1 Q
theorem pd_b {x : Str} {id : String} {r : List V → Hp → VK → Prop} {g : List D → Mu → DQ → Prop} (hc : CallR X (.builtin id) r) (hl : LfL X.K r g) (hm : X.mg x = none) (hv : bootBuiltins x = some (.builtin id)) (ha : PDA X (e :: es) tA) (hg : Gl X x := by rfl)
    (hn : x ≠ "__name__" := by decide) (hdb : (x == ("__debug__" : Str)) = false := by decide)
    (he : starEach (e :: es) X.env = (false, eval e X.env) :: starEach es X.env := by rfl) (hpl : (backTo pos (starEach es X.env)).any (·.1) = false := by rfl) : PD X (.Call (.Name x p) (e :: es) [] pos) (dCB g tA) := by
  obtain ⟨ea, pa, fa⟩ := ha.ex
  refine ⟨_, pe_callB hc hg hm hv pa hn hdb he hpl, @fun σ H ρ μ Q Qd o t k => ?_⟩
  exact fa o t fun x dx H1 μ1 g1 j1 h1 t1 => hl j1 h1 t1 (k.after g1)
theorem pd_ty {x : Str} {T : String} {r : List V → Hp → VK → Prop} {g : List D → Mu → DQ → Prop} (hc : CallR X (.type T) r) (hl : LfL X.K r g) (hm : X.mg x = none) (hv : bootBuiltins x = some (.type T)) (ha : PDA X (e :: es) tA) (hg : Gl X x := by rfl)
    (hn : x ≠ "__name__" := by decide) (hdb : (x == ("__debug__" : Str)) = false := by decide)
    (he : starEach (e :: es) X.env = (false, eval e X.env) :: starEach es X.env := by rfl) (hpl : (backTo pos (starEach es X.env)).any (·.1) = false := by rfl) : PD X (.Call (.Name x p) (e :: es) [] pos) (dCB g tA) := by
  obtain ⟨ea, pa, fa⟩ := ha.ex
  refine ⟨_, pe_callTy hc hg hm hv pa hn hdb he hpl, @fun σ H ρ μ Q Qd o t k => ?_⟩
  exact fa o t fun x dx H1 μ1 g1 j1 h1 t1 => hl j1 h1 t1 (k.after g1)

/-- a promise over data -/
abbrev SpD := List D → Mu → DQ → Prop
def up (K : PySem.W.Frag) (spd : SpD) : Sp := fun vs H Q _ => ∃ ds μ Qd, J K μ H ∧ DaL K μ H vs ds ∧ spd ds μ Qd ∧ Kt K μ H Q Qd
/-- a def of the module that may be called by its name -/
structure Cl (P : Program) (w : World) (K : PySem.W.Frag) (mg : Str → Option Value) (base : Heap) (k : Nat) (x : Str) (f : Addr) (fd : FuncData) (ps : List Str) (spd : SpD) : Prop where
  fn : FnG P w K mg base CX0 k f fd ps (up K spd)
  nm : mg x = some (.ref f)
  kp : PySem.W.keepIn K (.ref f) = true
  bd : Binds K fd ps []
def dCall (spd : SpD) (t : DA) : DE := fun ρ μ Q => t ρ μ fun ds μ1 => spd ds μ1 Q
theorem pd_call {x : Str} {k j : Nat} {f : Addr} {fd : FuncData} {ps : List Str} {spd : SpD} (c : Cl X.prog X.w X.K X.mg X.base k x f fd ps spd) (hr : Room j X.A) (hgu : X.A.guards = some []) (ha : PDA X (e :: es) tA) (hk : k ≤ j := by decide) (hg : Gl X x := by rfl)
    (hdb : (x == ("__debug__" : Str)) = false := by decide) (he : starEach (e :: es) X.env = (false, eval e X.env) :: starEach es X.env := by rfl) (hpl : (backTo pos (starEach es X.env)).any (·.1) = false := by rfl) :
    PD X (.Call (.Name x p) (e :: es) [] pos) (dCall spd tA) := by
  obtain ⟨ea, pa, fa⟩ := ha.ex
  refine ⟨_, pe_callG c.fn (hr.mono hk) hgu hg c.nm c.kp c.bd .nil pass0 pa hdb he hpl, @fun σ H ρ μ Q Qd o t k => ?_⟩
  refine fa o t fun vs ds H1 μ1 g1 j1 h1 t1 => ?_
  rw [List.append_nil]
  exact ⟨ds, μ1, Qd, j1, h1, t1, k.after g1⟩
def dCallK (spd : SpD) (gD : List D → List D) (t : DA) : DE := fun ρ μ Q => t ρ μ fun ds μ1 => spd (gD ds) μ1 Q
theorem pd_callK {x : Str} {k j : Nat} {f : Addr} {fd : FuncData} {ps ks : List Str} {spd : SpD} {kws : List Keyword} {gg : List Value → List Value → List Value} {gV : List V → List V → List V} {gD : List D → List D} (c : Cl X.prog X.w X.K X.mg X.base k x f fd ps spd)
    (kb : KBinds X.K fd ps ks gg gV) (hD : ∀ {μ : Mu} {H : Hp} {vs : List V} {ds : List D}, DaL X.K μ H vs ds → DaL X.K μ H (gV [] vs) (gD ds)) (hr : Room j X.A) (hgu : X.A.guards = some []) (ha : PDK X kws tA) (hk : k ≤ j := by decide) (hg : Gl X x := by rfl)
    (hall : (backToKw pos (keywordEach kws X.env)).all (·.1.isSome) = true := by rfl) (hks : (backToKw pos (keywordEach kws X.env)).filterMap (·.1) = ks := by rfl)
    (hdb : (x == ("__debug__" : Str)) = false := by decide) (hpl : ((backTo pos (starEach [] X.env)).any (·.1) || (backToKw pos (keywordEach kws X.env)).any (·.1.isNone)) = false := by rfl) :
    PD X (.Call (.Name x p) [] kws pos) (dCallK spd gD tA) := by
  obtain ⟨ea, pa, fa⟩ := ha.ex
  refine ⟨_, pe_callKG0 c.fn (hr.mono hk) hgu hg c.nm c.kp kb pass0 pa hall hks hdb hpl, @fun σ H ρ μ Q Qd o t k => ?_⟩
  exact fa o t fun vs ds H1 μ1 g1 j1 h1 t1 => ⟨gD ds, μ1, Qd, j1, hD h1, t1, k.after g1⟩

/-! and, or, not, if: values that are bools; tests -/
def dAnd (ta tb : DE) : DE := fun ρ μ Q => ta ρ μ fun x μ1 => match x with
  | .bl true => tb ρ μ1 Q
  | .bl false => Q (.bl false) μ1
  | _ => False
def dOr (ta tb : DE) : DE := fun ρ μ Q => ta ρ μ fun x μ1 => match x with
  | .bl true => Q (.bl true) μ1
  | .bl false => tb ρ μ1 Q
  | _ => False
variable {rest : List Expr} {tT tU : DT}
theorem pd_one {op} (h : PD X a ta) : PD X (.BoolOp op [a] pos) ta := by
  obtain ⟨ea, pa, fa⟩ := h.ex
  exact ⟨_, pe_one pa, @fun σ H ρ μ Q Qd o t k => fa o t k⟩
theorem pd_and (ha : PD X a ta) (hb : PD X (.BoolOp .And (b :: rest) pos) tb) : PD X (.BoolOp .And (a :: b :: rest) pos) (dAnd ta tb) := by
  obtain ⟨ea, pa, fa⟩ := ha.ex
  obtain ⟨eb, pb, fb⟩ := hb.ex
  refine ⟨_, pe_and pa pb, @fun σ H ρ μ Q Qd o t k => ?_⟩
  refine fa o t fun x dx H1 μ1 g1 j1 h1 t1 => ?_
  match dx, h1, t1 with
  | .bl true, .bl _, t1 => exact ⟨true, rfl, iteT (fb (o.grow g1 j1) t1 (k.after g1))⟩
  | .bl false, .bl _, t1 => exact ⟨false, rfl, iteF ((k.after g1).now j1 (.bl false) t1)⟩
theorem pd_or (ha : PD X a ta) (hb : PD X (.BoolOp .Or (b :: rest) pos) tb) : PD X (.BoolOp .Or (a :: b :: rest) pos) (dOr ta tb) := by
  obtain ⟨ea, pa, fa⟩ := ha.ex
  obtain ⟨eb, pb, fb⟩ := hb.ex
  refine ⟨_, pe_or pa pb, @fun σ H ρ μ Q Qd o t k => ?_⟩
  refine fa o t fun x dx H1 μ1 g1 j1 h1 t1 => ?_
  match dx, h1, t1 with
  | .bl true, .bl _, t1 => exact ⟨true, rfl, iteT ((k.after g1).now j1 (.bl true) t1)⟩
  | .bl false, .bl _, t1 => exact ⟨false, rfl, iteF (fb (o.grow g1 j1) t1 (k.after g1))⟩
def gNot : D → Mu → DQ → Prop
  | .bl b, μ, Q => Q (.bl (!b)) μ
  | _, _, _ => False
theorem pd_not (ha : PD X a ta) : PD X (.UnaryOp .Not a pos) (dUn gNot ta) := by
  obtain ⟨ea, pa, fa⟩ := ha.ex
  refine ⟨_, pe_not pa, @fun σ H ρ μ Q Qd o t k => ?_⟩
  refine fa o t fun x dx H1 μ1 g1 j1 h1 t1 => ?_
  match dx, h1, t1 with
  | .bl b, .bl _, t1 => exact ⟨b, rfl, (k.after g1).now j1 (.bl _) t1⟩
def dB (ta : DE) : DT := fun ρ μ Q => ta ρ μ fun x μ1 => match x with
  | .bl b => Q b μ1
  | _ => False
theorem pt_b (h : PD X e te) (he : ∀ whole, isTrue e X.env whole = (do let v ← whole; standAt e.pos; holding [v] (truthy v)) := by intro _; rfl) : PDT X e (dB te) := by
  obtain ⟨ea, pa, fa⟩ := h.ex
  refine ⟨_, pt_val pa he, @fun σ H ρ μ Q Qd o t k => ?_⟩
  refine fa o t fun x dx H1 μ1 g1 j1 h1 t1 => ?_
  match dx, h1, t1 with
  | .bl b, .bl _, t1 => exact ⟨b, rfl, k b _ _ g1 j1 t1⟩
/-- a comparison as a test -/
theorem pt_c {op : CmpOp} {r : R2} {g : G2} (ho : OpR X (compareOp op) r) (hg : Lf2 X.K r g) (ha : PD X a ta) (hb : PD X b tb) (hm : behindInMarks op b = false) : PDT X (.Compare a [op] [b] pos) (dB (dOp g ta tb)) := by
  obtain ⟨ea, pa, fa⟩ := ha.ex
  obtain ⟨eb, pb, fb⟩ := hb.ex
  refine ⟨_, pt_cmpR ho pa pb hm, @fun σ H ρ μ Q Qd o t k => ?_⟩
  refine fa o t fun x dx H1 μ1 g1 j1 h1 t1 => ?_
  refine fb (o.grow g1 j1) t1 fun y dy H2 μ2 g2 j2 h2 t2 => ?_
  refine hg j2 (h1.grow g2) h2 t2 fun z dz H3 μ3 g3 j3 h3 t3 => ?_
  match dz, h3, t3 with
  | .bl b, .bl _, t3 => exact ⟨b, rfl, k b _ _ ((g1.trans g2).trans g3) j3 t3⟩
def dAndT (t u : DT) : DT := fun ρ μ Q => t ρ μ fun c μ1 => if c = true then u ρ μ1 Q else Q false μ1
def dOrT (t u : DT) : DT := fun ρ μ Q => t ρ μ fun c μ1 => if c = true then Q true μ1 else u ρ μ1 Q
def dNotT (t : DT) : DT := fun ρ μ Q => t ρ μ fun c μ1 => Q (!c) μ1
theorem pt_w (h : PDW X e tT) : PDT X e tT := by
  obtain ⟨ea, pa, fa⟩ := h.ex
  exact ⟨_, pa.pt, @fun σ H ρ μ Q Qd o t k => fa o t k⟩
theorem pw_a1 (h : PDT X a tT) : PDW X (.BoolOp .And [a] pos) tT := by
  obtain ⟨ea, pa, fa⟩ := h.ex
  exact ⟨_, pw_and1 pa, @fun σ H ρ μ Q Qd o t k => fa o t k⟩
theorem pw_o1 (h : PDT X a tT) : PDW X (.BoolOp .Or [a] pos) tT := by
  obtain ⟨ea, pa, fa⟩ := h.ex
  exact ⟨_, pw_or1 pa, @fun σ H ρ μ Q Qd o t k => fa o t k⟩
theorem pw_a (ha : PDT X a tT) (hb : PDW X (.BoolOp .And (b :: rest) pos) tU) : PDW X (.BoolOp .And (a :: b :: rest) pos) (dAndT tT tU) := by
  obtain ⟨ea, pa, fa⟩ := ha.ex
  obtain ⟨eb, pb, fb⟩ := hb.ex
  refine ⟨_, L2.pw_and pa pb, @fun σ H ρ μ Q Qd o t k => ?_⟩
  refine fa o t fun c H1 μ1 g1 j1 t1 => ?_
  cases c with
  | true => exact iteT (fb (o.grow g1 j1) (by simpa using t1) (k.after g1))
  | false => exact iteF (k _ _ _ g1 j1 (by simpa using t1))
theorem pw_o (ha : PDT X a tT) (hb : PDW X (.BoolOp .Or (b :: rest) pos) tU) : PDW X (.BoolOp .Or (a :: b :: rest) pos) (dOrT tT tU) := by
  obtain ⟨ea, pa, fa⟩ := ha.ex
  obtain ⟨eb, pb, fb⟩ := hb.ex
  refine ⟨_, L2.pw_or pa pb, @fun σ H ρ μ Q Qd o t k => ?_⟩
  refine fa o t fun c H1 μ1 g1 j1 t1 => ?_
  cases c with
  | true => exact iteT (k _ _ _ g1 j1 (by simpa using t1))
  | false => exact iteF (fb (o.grow g1 j1) (by simpa using t1) (k.after g1))
theorem pt_n (ha : PDT X a tT) : PDT X (.UnaryOp .Not a pos) (dNotT tT) := by
  obtain ⟨ea, pa, fa⟩ := ha.ex
  exact ⟨_, L2.pt_not pa, @fun σ H ρ μ Q Qd o t k => fa o t fun c H1 μ1 g1 j1 t1 => k _ _ _ g1 j1 t1⟩
def dIfE (t : DT) (ta tb : DE) : DE := fun ρ μ Q => t ρ μ fun c μ1 => if c = true then ta ρ μ1 Q else tb ρ μ1 Q
theorem pd_if {c : Expr} (hc : PDT X c tT) (ha : PD X a ta) (hb : PD X b tb) : PD X (.IfExp c a b pos) (dIfE tT ta tb) := by
  obtain ⟨ec, pc, fc⟩ := hc.ex
  obtain ⟨ea, pa, fa⟩ := ha.ex
  obtain ⟨eb, pb, fb⟩ := hb.ex
  refine ⟨_, pe_ifExp pc pa pb, @fun σ H ρ μ Q Qd o t k => ?_⟩
  refine fc o t fun c H1 μ1 g1 j1 t1 => ?_
  cases c with
  | true => exact iteT (fa (o.grow g1 j1) (by simpa using t1) (k.after g1))
  | false => exact iteF (fb (o.grow g1 j1) (by simpa using t1) (k.after g1))
end
end Dl

/-! t[::-1] of a tuple -/
namespace Dl
open PySem PySem.Spec PyProof.Rows L2
theorem fm_congr {β : Type} {f g : Nat → Option β} : ∀ {l : List Nat}, (∀ k ∈ l, f k = g k) → l.filterMap f = l.filterMap g
  | [], _ => rfl
  | k :: l, h => by
    rw [List.filterMap_cons, List.filterMap_cons, h k List.mem_cons_self, fm_congr fun z hz => h z (List.mem_cons_of_mem _ hz)]
theorem pick_back (items : Array Value) : (((List.range items.size).filterMap fun (k : Nat) => items[(((items.size : Int) - 1) + (k : Int) * (-1)).toNat]?)).toArray = items.toList.reverse.toArray := by
  congr 1
  rw [← PySem.W.krv_all items, ← List.filterMap_reverse]
  have : (List.range items.size).reverse = (List.range items.size).map fun k => items.size - 1 - k := (PySem.W.krv_range items.size).symm
  rw [this, List.filterMap_map]
  refine fm_congr fun k hk => ?_
  have hk' := List.mem_range.mp hk
  have e : (((items.size : Int) - 1) + (k : Int) * (-1)).toNat = items.size - 1 - k := by omega
  rw [e]
  first | done | rfl
section
variable {prog : Program} {w : World} {A : Around} {E : Value → Shared → Prop} {s : Shared}
theorem getItem_tuple_back {t sl : Addr} {items : Array Value} {vl vu vs : Value} {Q : Value → Shared → Prop} (ht : IsTup s.heap t items) (hs : s.heap.IsSliceOf sl vl vu vs) (pl : IsPart vl none) (pu : IsPart vu none) (ps : IsPart vs (some (-1)))
    (h : Q (.ref s.heap.objs.size) { s with heap := s.heap.push { cls := .type "tuple", data := .seq items.toList.reverse.toArray } }) (hz : items.size ≤ sizeLine) : wpAny (model prog w) A (getItem (.ref t) (.ref sl)) Q E s := by
  have hz' : sizeOk (.seq items.toList.reverse.toArray) := by
    show items.toList.reverse.toArray.size ≤ sizeLine
    rw [List.size_toArray, List.length_reverse, Array.length_toList]
    exact hz
  obtain ⟨os, hos, hcs, hds⟩ := id hs
  have hT : s.TypeIs (.ref sl) "slice" := ⟨os, hos, hcs⟩
  cases pl
  cases pu
  cases ps with | int _ tk =>
  unfold getItem
  try with_reducible refine wpAny_holding ?_
  first | refine wpAny_bind (wpAny_pure ?_) | skip
  refine wpAny_bind (wpAny_sequenceKey ht.typeIs (by decide) (wpAny_bind (wpAny_callSpecial?_slot (name := Str.ofString "__getitem__") ht.typeIs PyProof.Rows.slot_tuple_getitem
    (wpAny_call_entry PyProof.Rows.slot_tuple_getitem ht.typeIs entry_tuple_getitem ?_ (args_tuple_getitem _ _)))))
  show wpAny _ _ (Builtin.Tuple.tupleItemsOf (.ref t) >>= _) _ _ s
  refine wpAny_bind (tupleItemsOf_ ht (wpAny_bind (wpAny_typeOf hT ?_)))
  rw [if_pos (by decide)]
  have ap : ∀ {R : Int × Int × Nat → Shared → Prop} {EE : Value → Shared → Prop} {B : Around}, R ((items.size : Int) - 1, -1, items.size) s → wpAny (model prog w) B (Builtin.Slice.sliceApplied (.ref sl) (pure (items.size : Int))) R EE s := by
    intro R EE B q
    unfold Builtin.Slice.sliceApplied Builtin.Slice.sliceFields
    refine wpAny_bind (wpAny_bind (wpAny_field hos hds (x := .none) rfl (wpAny_bind (wpAny_field hos hds (x := .none) rfl (wpAny_bind (wpAny_field hos hds (x := .int (-1) tk) rfl (wpAny_pure ?_)))))))
    refine wpAny_bind (slicePart_int ?_)
    show wpAny _ _ (if ((-1 : Int) == 0) = true then _ else _) _ _ s
    rw [if_neg (by decide)]
    refine wpAny_bind (slicePart_none (wpAny_bind (slicePart_none (wpAny_bind (wpAny_pure ?_)))))
    have e1 : Builtin.Slice.sliceAdjust none none (-1) (items.size : Int) = ((items.size : Int) - 1, -1) := rfl
    have e2 : Builtin.Slice.slicePlaces ((items.size : Int) - 1) (-1) (-1) = items.size := by
      unfold Builtin.Slice.slicePlaces
      rw [if_neg (by decide)]
      by_cases c : (items.size : Int) - 1 > -1
      · rw [if_pos c, show (-(-1) : Int) = 1 by decide, Int.ediv_one]; omega
      · rw [if_neg c]; omega
    show wpAny _ _ (match Builtin.Slice.sliceAdjust none none (-1) (items.size : Int) with | (lo, hi) => pure (lo, (-1 : Int), Builtin.Slice.slicePlaces lo hi (-1))) _ _ s
    rw [e1]
    show wpAny _ _ (pure ((items.size : Int) - 1, (-1 : Int), Builtin.Slice.slicePlaces ((items.size : Int) - 1) (-1) (-1))) _ _ s
    rw [e2]
    exact wpAny_pure q
  refine wpAny_bind (ap ?_)
  have no : ¬ ((((items.size : Int) - 1) == 0 && (-1 : Int) == 1 && items.size == items.size) = true) := by
    rw [show ((-1 : Int) == 1) = false from rfl, Bool.and_false, Bool.false_and]
    exact Bool.false_ne_true
  show wpAny _ _ (if (((items.size : Int) - 1) == 0 && (-1 : Int) == 1 && items.size == items.size) = true then _ else _) _ _ s
  rw [if_neg no, pick_back]
  first
    | exact wpAny_bind (m := Builtin.Tuple.tupleExact _) (wpAny_newObj_type (wpAny_pure ⟨_, rfl, wpAny_pure h⟩) hz')
    | exact wpAny_bind (m := Builtin.Tuple.tupleExact _) (wpAny_newObj_type (wpAny_bind (wpAny_pure (wpAny_pure ⟨_, rfl, wpAny_pure h⟩))) hz')
    | exact wpAny_bind (wpAny_bind (m := Builtin.Tuple.tupleExact _) (wpAny_newObj_type (wpAny_pure (wpAny_pure ⟨_, rfl, wpAny_pure h⟩)) hz'))
    | exact wpAny_bind (wpAny_bind (m := Builtin.Tuple.tupleExact _) (wpAny_newObj_type (wpAny_pure ⟨_, rfl, wpAny_pure h⟩) hz'))
end
section
variable {X : Cx} {e : Expr} {pos p1 p2 p3 : Pos}
theorem vals_back : ∀ {xs : List V} {us : List Value}, Vals xs us → Vals xs.reverse us.reverse
  | _, _, .nil => .nil
  | _, _, .cons r t => by
    rw [List.reverse_cons, List.reverse_cons]
    exact (vals_back t).append (.cons r .nil)
def rRev (K : PySem.W.Frag) : V → Hp → VK → Prop := fun x H Q => (∃ a xs, x = .ref a ∧ SqL K H a xs ∧ ∀ p, H p = none → Q (.ref p) (upd H p (.lst xs.reverse))) ∨ ∃ a xs, x = .ref a ∧ SqT K H a xs ∧ ∀ p, H p = none → Q (.ref p) (upd H p (.tup xs.reverse))
theorem pe_rev {te : TE} {k : Nat} (he : PE X e te) : PE X (.Subscript e (.Slice none none (some (.UnaryOp .USub (.Constant (.int 1) k p1) p2)) p3) pos) (tUn (rRev X.K) te) := ⟨fun pins s σ H Q I h => by
  refine Subscript_ (thn (he.run pins s σ H _ I h) fun v s1 ⟨x, H1, I1, r1, q⟩ => ?_)
  have st : PO X (some (.UnaryOp .USub (.Constant (.int 1) k p1) p2)) (tPart (tUn (rU fun i => .int (-i)) (tC (.int 1)))) := po_some (pe_un un_neg pe_int)
  refine wpAny_Slice (thn (po_none.run pins s1 σ H1 (fun o H2 => o = none ∧ H2 = H1) I1 ⟨rfl, rfl⟩) fun vl s2 ⟨_, _, I2, pl, el, e2⟩ => ?_)
  subst el e2
  refine thn (po_none.run pins s2 σ _ (fun o H3 => o = none ∧ H3 = _) I2 ⟨rfl, rfl⟩) fun vu s3 ⟨_, _, I3, pu, eu, e3⟩ => ?_
  subst eu e3
  refine thn (st.run pins s3 σ _ (fun o H4 => o = some (-1) ∧ H4 = _) I3 ⟨1, rfl, -1, rfl, rfl, rfl⟩) fun vs s4 ⟨_, H4, I4, ps, eo, e4⟩ => ?_
  subst eo e4
  have I5 : Inv X pins σ _ { s4 with heap := s4.heap.push { cls := .type "slice", data := .fields #[vl, vu, vs] } } := I4.kept (t' := s4.toks) fun b ob q => Heap.get?_push_of_some _ q
  show wpAny (model X.prog X.w) X.A (subscriptTail e (.Slice none none (some (.UnaryOp .USub (.Constant (.int 1) k p1) p2)) p3) v (.ref s4.heap.objs.size)) (EP X pins σ Q) X.xe { s4 with heap := s4.heap.push { cls := .type "slice", data := .fields #[vl, vu, vs] } }
  rcases q with ⟨a, xs, ex, hx, q⟩ | ⟨a, xs, ex, hx, q⟩
  · subst ex
    cases r1
    obtain ⟨its, r, ht, hz⟩ := I5.list hx
    have hl : its.toArray.size ≤ sizeLine := by rw [List.size_toArray, ← r.length]; exact hz
    refine tail_any (ops := [.ref a, .ref s4.heap.objs.size]) ht.isList.typeIs PySem.slot_list_getitem.lookup (wpAny_getItem_list_slice ht.isList (Heap.IsSliceOf.new _ vl vu vs) pl pu ps (by decide) ?_ hl) (by with_unfolding_all rfl)
    rw [PySem.W.krv_pick]
    refine ⟨.ref _, _, I5.laid (t' := s4.toks) (o := .lst xs.reverse) (fun b ob q => Heap.get?_push_of_some _ q) (Nat.le_refl _) ?_, rfl, q _ (I5.hok.fresh (Nat.le_refl _))⟩
    exact ⟨by rw [List.length_reverse]; exact hz, _, 0, vals_back r, Heap.get?_push_size _ rfl⟩
  · subst ex
    cases r1
    obtain ⟨its, r, ht, hz⟩ := I5.tuple hx
    have hl : its.toArray.size ≤ sizeLine := by rw [List.size_toArray, ← r.length]; exact hz
    refine tail_any (ops := [.ref a, .ref s4.heap.objs.size]) ht.typeIs PyProof.Rows.slot_tuple_getitem.lookup (getItem_tuple_back ht (Heap.IsSliceOf.new _ vl vu vs) pl pu ps ?_ hl) (by with_unfolding_all rfl)
    refine ⟨.ref _, _, I5.laid (t' := s4.toks) (o := .tup xs.reverse) (fun b ob q => Heap.get?_push_of_some _ q) (Nat.le_refl _) ?_, rfl, q _ (I5.hok.fresh (Nat.le_refl _))⟩
    exact ⟨by rw [List.length_reverse]; exact hz, _, vals_back r, IsTup.new _ _⟩⟩
end

/-! ### operators on data -/
section
variable {X : Cx} {K : PySem.W.Frag}
def gAdd : G2 := fun x y μ Q => match x, y with
  | .int i, .int j => Q (.int (i + j)) μ
  | .str a, .str b => a.length + b.length ≤ sizeLine ∧ Q (.str (a ++ b)) μ
  | .tup xs, .tup ys => xs.length + ys.length ≤ sizeLine ∧ Q (.tup (xs ++ ys)) μ
  | .lst xs, .lst ys => xs.length + ys.length ≤ sizeLine ∧ Q (.lst (xs ++ ys)) μ
  | _, _ => False
theorem pd_add {a b : Expr} {ta tb : DE} {pos : Pos} (ha : PD X a ta) (hb : PD X b tb) : PD X (.BinOp a .Add b pos) (dOp gAdd ta tb) := by
  refine pd_op (op_add.or (op_add_str.or (op_catA.or op_cat))) (@fun x y dx dy H μ Q Qd j hx hy g k => ?_) ha hb
  unfold gAdd at g
  split at g
  · cases hx; cases hy
    exact .inl ⟨_, _, rfl, rfl, k.now j (.int _) g⟩
  · cases hx; cases hy
    exact .inr (.inl ⟨_, _, rfl, rfl, g.1, k.now j (.str _) g.2⟩)
  · obtain ⟨g1, g2⟩ := g
    cases hx with | tup e l =>
    cases hy with | tup e' l' =>
    rename_i vs _ ws
    have n1 := l.length
    have n2 := l'.length
    refine .inr (.inr (.inl ⟨_, _, vs, ws, rfl, rfl, Da.sqT e, Da.sqT e', by omega, fun z => ?_, fun _ z => ?_, fun _ _ p n => ?_⟩))
    · subst z
      cases l
      exact k.now j (.tup e' l') g2
    · subst z
      cases l'
      rw [List.append_nil] at g2
      exact k.now j (.tup e l) g2
    · exact k.new j n (da_tup j n (l.append l')) g2
  · obtain ⟨g1, g2⟩ := g
    cases hx with | lst n0 e l =>
    cases hy with | lst n1 e' l' =>
    have n1 := l.length
    have n2 := l'.length
    exact .inr (.inr (.inr ⟨_, _, _, _, rfl, rfl, e, e', by omega, fun p n => k.new j n (da_lst j n (l.append l')) g2⟩))
  · exact g.elim
/-- two ints -/
def gI (C : Int → Int → Prop) (f : Int → Int → D) : G2 := fun x y μ Q => match x, y with
  | .int i, .int j => C i j ∧ Q (f i j) μ
  | _, _ => False
def gI0 (f : Int → Int → D) : G2 := fun x y μ Q => match x, y with
  | .int i, .int j => Q (f i j) μ
  | _, _ => False
theorem lf_I {C : Int → Int → Prop} {f : Int → Int → V} {f' : Int → Int → D} (h : ∀ {μ H} i j, Da K μ H (f i j) (f' i j)) : Lf2 K (rI C f) (gI C f') := @fun x y dx dy H μ Q Qd j hx hy g k => by
  unfold gI at g
  split at g
  · cases hx; cases hy
    exact ⟨_, _, rfl, rfl, g.1, k.now j (h _ _) g.2⟩
  · exact g.elim
theorem lf_I0 {f : Int → Int → V} {f' : Int → Int → D} (h : ∀ {μ H} i j, Da K μ H (f i j) (f' i j)) : Lf2 K (rI0 f) (gI0 f') := @fun x y dx dy H μ Q Qd j hx hy g k => by
  unfold gI0 at g
  split at g
  · cases hx; cases hy
    exact ⟨_, _, rfl, rfl, k.now j (h _ _) g⟩
  · exact g.elim
variable {a b : Expr} {ta tb : DE} {pos : Pos}
def gSub : G2 := gI0 fun i j => .int (i - j)
def gMul : G2 := gI CMul fun i j => .int (i * j)
def gMod : G2 := gI (fun _ j => 0 < j) fun i j => .int (i % j)
def gDiv : G2 := gI CDiv fun i j => .int (i / j)
def gPow : G2 := gI CPow fun i j => .int (i ^ j.toNat)
theorem pd_sub (ha : PD X a ta) (hb : PD X b tb) : PD X (.BinOp a .Sub b pos) (dOp gSub ta tb) := pd_op op_sub (lf_I0 fun _ _ => .int _) ha hb
theorem pd_mul (ha : PD X a ta) (hb : PD X b tb) : PD X (.BinOp a .Mult b pos) (dOp gMul ta tb) := pd_op op_mul (lf_I fun _ _ => .int _) ha hb
theorem pd_mod (ha : PD X a ta) (hb : PD X b tb) : PD X (.BinOp a .Mod b pos) (dOp gMod ta tb) := pd_op op_mod (lf_I fun _ _ => .int _) ha hb
theorem pd_div (ha : PD X a ta) (hb : PD X b tb) : PD X (.BinOp a .FloorDiv b pos) (dOp gDiv ta tb) := pd_op op_fdiv (lf_I fun _ _ => .int _) ha hb
theorem pd_pow (ha : PD X a ta) (hb : PD X b tb) : PD X (.BinOp a .Pow b pos) (dOp gPow ta tb) := pd_op op_pow (lf_I fun _ _ => .int _) ha hb
def gNeg : D → Mu → DQ → Prop := fun x μ Q => match x with
  | .int i => Q (.int (-i)) μ
  | _ => False
theorem pd_neg (ha : PD X a ta) : PD X (.UnaryOp .USub a pos) (dUn gNeg ta) := by
  refine pd_un un_neg (@fun x dx H μ Q Qd j hx g k => ?_) ha
  unfold gNeg at g
  split at g
  · cases hx
    exact ⟨_, rfl, k.now j (.int _) g⟩
  · exact g.elim

/-! comparisons of data -/
def rD (K : PySem.W.Frag) (C : PyData → PyData → Prop) (f : PyData → PyData → Bool) : R2 := fun x y H Q => ∃ d e, Dp K H x d ∧ Dp K H y e ∧ C d e ∧ Q (.bl (f d e)) H
def gD (C : PyData → PyData → Prop) (f : PyData → PyData → Bool) : G2 := fun x y μ Q => pur (vw μ x) = true ∧ pur (vw μ y) = true ∧ C (py (vw μ x)) (py (vw μ y)) ∧ Q (.bl (f (py (vw μ x)) (py (vw μ y)))) μ
theorem lf_D {C : PyData → PyData → Prop} {f : PyData → PyData → Bool} : Lf2 K (rD K C f) (gD C f) := @fun x y dx dy H μ Q Qd j hx hy g k =>
  ⟨_, _, hx.vdp j g.1, hy.vdp j g.2.1, g.2.2.1, k.now j (.bl _) g.2.2.2⟩
def CEq (d e : PyData) : Prop := d.plain = true ∧ e.plain = true ∧ e.depth ≤ 64
def CLt (d e : PyData) : Prop := PySem.W.alike d e = true ∧ d ≠ .none ∧ e.depth ≤ 64
theorem op_eqq (hu : X.A.units + 64 < cLine) : OpR X (compareOp .Eq) (rD X.K CEq PyData.eqv) := by
  intro pins s σ H x y v u Q I rx ry h
  obtain ⟨d, e, hd, he, ⟨c1, c2, c3⟩, q⟩ := h
  obtain ⟨as, r1⟩ := Dp.reads I d x v hd rx
  obtain ⟨bs, r2⟩ := Dp.reads I e y u he ry
  exact PySem.SeqAt.eq_plain r1 r2 c1 c2 (by omega) ⟨.bl _, H, I, rfl, q⟩
theorem op_neq (hu : X.A.units + 64 < cLine) : OpR X (compareOp .NotEq) (rD X.K CEq fun d e => !PyData.eqv d e) := by
  intro pins s σ H x y v u Q I rx ry h
  obtain ⟨d, e, hd, he, ⟨c1, c2, c3⟩, q⟩ := h
  obtain ⟨as, r1⟩ := Dp.reads I d x v hd rx
  obtain ⟨bs, r2⟩ := Dp.reads I e y u he ry
  exact PySem.SeqAt.ne_plain r1 r2 c1 c2 (by omega) ⟨.bl _, H, I, rfl, q⟩
theorem op_ltq (hu : X.A.units + 64 < cLine) : OpR X (compareOp .Lt) (rD X.K CLt PySem.W.dataLt) := by
  intro pins s σ H x y v u Q I rx ry h
  obtain ⟨d, e, hd, he, ⟨c1, c2, c3⟩, q⟩ := h
  obtain ⟨as, r1⟩ := Dp.reads I d x v hd rx
  obtain ⟨bs, r2⟩ := Dp.reads I e y u he ry
  exact PySem.W.lt_data r1 r2 c1 c2 (by omega) ⟨.bl _, H, I, rfl, q⟩
theorem op_gtq (hu : X.A.units + 64 < cLine) : OpR X (compareOp .Gt) (rD X.K CLt fun d e => PySem.W.dataLt e d) := by
  intro pins s σ H x y v u Q I rx ry h
  obtain ⟨d, e, hd, he, ⟨c1, c2, c3⟩, q⟩ := h
  obtain ⟨as, r1⟩ := Dp.reads I d x v hd rx
  obtain ⟨bs, r2⟩ := Dp.reads I e y u he ry
  exact PySem.W.gt_data r1 r2 c1 c2 (by omega) ⟨.bl _, H, I, rfl, q⟩
theorem op_leq (hu : X.A.units + 64 < cLine) : OpR X (compareOp .LtE) (rD X.K CLt fun d e => !PySem.W.dataLt e d) := by
  intro pins s σ H x y v u Q I rx ry h
  obtain ⟨d, e, hd, he, ⟨c1, c2, c3⟩, q⟩ := h
  obtain ⟨as, r1⟩ := Dp.reads I d x v hd rx
  obtain ⟨bs, r2⟩ := Dp.reads I e y u he ry
  exact PySem.W.le_data r1 r2 c1 c2 (by omega) ⟨.bl _, H, I, rfl, q⟩
theorem op_geq (hu : X.A.units + 64 < cLine) : OpR X (compareOp .GtE) (rD X.K CLt fun d e => !PySem.W.dataLt d e) := by
  intro pins s σ H x y v u Q I rx ry h
  obtain ⟨d, e, hd, he, ⟨c1, c2, c3⟩, q⟩ := h
  obtain ⟨as, r1⟩ := Dp.reads I d x v hd rx
  obtain ⟨bs, r2⟩ := Dp.reads I e y u he ry
  exact PySem.W.ge_data r1 r2 c1 c2 (by omega) ⟨.bl _, H, I, rfl, q⟩
def gEq : G2 := gD CEq PyData.eqv
def gNe : G2 := gD CEq fun d e => !PyData.eqv d e
def gLt : G2 := gD CLt PySem.W.dataLt
def gGt : G2 := gD CLt fun d e => PySem.W.dataLt e d
def gLe : G2 := gD CLt fun d e => !PySem.W.dataLt e d
def gGe : G2 := gD CLt fun d e => !PySem.W.dataLt d e
section
variable {k : Nat}
theorem pd_eq (hr : Room k X.A) (ha : PD X a ta) (hb : PD X b tb) : PD X (.Compare a [.Eq] [b] pos) (dOp gEq ta tb) := pd_cmp (op_eqq hr.units) lf_D ha hb (nomark _)
theorem pd_ne (hr : Room k X.A) (ha : PD X a ta) (hb : PD X b tb) : PD X (.Compare a [.NotEq] [b] pos) (dOp gNe ta tb) := pd_cmp (op_neq hr.units) lf_D ha hb (nomark _)
theorem pd_lt (hr : Room k X.A) (ha : PD X a ta) (hb : PD X b tb) : PD X (.Compare a [.Lt] [b] pos) (dOp gLt ta tb) := pd_cmp (op_ltq hr.units) lf_D ha hb (nomark _)
theorem pd_gt (hr : Room k X.A) (ha : PD X a ta) (hb : PD X b tb) : PD X (.Compare a [.Gt] [b] pos) (dOp gGt ta tb) := pd_cmp (op_gtq hr.units) lf_D ha hb (nomark _)
theorem pd_le (hr : Room k X.A) (ha : PD X a ta) (hb : PD X b tb) : PD X (.Compare a [.LtE] [b] pos) (dOp gLe ta tb) := pd_cmp (op_leq hr.units) lf_D ha hb (nomark _)
theorem pd_ge (hr : Room k X.A) (ha : PD X a ta) (hb : PD X b tb) : PD X (.Compare a [.GtE] [b] pos) (dOp gGe ta tb) := pd_cmp (op_geq hr.units) lf_D ha hb (nomark _)
theorem pt_eq (hr : Room k X.A) (ha : PD X a ta) (hb : PD X b tb) : PDT X (.Compare a [.Eq] [b] pos) (dB (dOp gEq ta tb)) := pt_c (op_eqq hr.units) lf_D ha hb (nomark _)
theorem pt_ne (hr : Room k X.A) (ha : PD X a ta) (hb : PD X b tb) : PDT X (.Compare a [.NotEq] [b] pos) (dB (dOp gNe ta tb)) := pt_c (op_neq hr.units) lf_D ha hb (nomark _)
theorem pt_lt (hr : Room k X.A) (ha : PD X a ta) (hb : PD X b tb) : PDT X (.Compare a [.Lt] [b] pos) (dB (dOp gLt ta tb)) := pt_c (op_ltq hr.units) lf_D ha hb (nomark _)
theorem pt_gt (hr : Room k X.A) (ha : PD X a ta) (hb : PD X b tb) : PDT X (.Compare a [.Gt] [b] pos) (dB (dOp gGt ta tb)) := pt_c (op_gtq hr.units) lf_D ha hb (nomark _)
theorem pt_le (hr : Room k X.A) (ha : PD X a ta) (hb : PD X b tb) : PDT X (.Compare a [.LtE] [b] pos) (dB (dOp gLe ta tb)) := pt_c (op_leq hr.units) lf_D ha hb (nomark _)
theorem pt_ge (hr : Room k X.A) (ha : PD X a ta) (hb : PD X b tb) : PDT X (.Compare a [.GtE] [b] pos) (dB (dOp gGe ta tb)) := pt_c (op_geq hr.units) lf_D ha hb (nomark _)
end
/-! is True, is None -/
def gIs : G2 := fun x y μ Q => match x, y with
  | .bl a, .bl b => Q (.bl (decide (a = b))) μ
  | _, _ => False
theorem pd_isB (ha : PD X a ta) (hb : PD X b tb) : PD X (.Compare a [.Is] [b] pos) (dOp gIs ta tb) := by
  refine pd_cmp op_isBl (@fun x y dx dy H μ Q Qd j hx hy g k => ?_) ha hb (nomark _)
  unfold gIs at g
  split at g
  · cases hx; cases hy
    exact ⟨_, _, rfl, rfl, k.now j (.bl _) g⟩
  · exact g.elim
def isNon : D → Bool
  | .non => true
  | _ => false
theorem isNon_eq {μ : Mu} {H : Hp} {v : V} {d : D} (h : Da K μ H v d) : decide (v = .non) = isNon d := by
  cases h <;> simp [isNon]
def gIsN : G2 := fun x y μ Q => match y with
  | .non => Q (.bl (isNon x)) μ
  | _ => False
def gNotN : G2 := fun x y μ Q => match y with
  | .non => Q (.bl (!isNon x)) μ
  | _ => False
theorem lf_isN : Lf2 K (fun x y H Q => y = .non ∧ Q (.bl (decide (x = .non))) H) gIsN := @fun x y dx dy H μ Q Qd j hx hy g k => by
  unfold gIsN at g
  split at g
  · cases hy
    exact ⟨rfl, by rw [isNon_eq hx]; exact k.now j (.bl _) g⟩
  · exact g.elim
theorem lf_notN : Lf2 K (fun x y H Q => y = .non ∧ Q (.bl (!decide (x = .non))) H) gNotN := @fun x y dx dy H μ Q Qd j hx hy g k => by
  unfold gNotN at g
  split at g
  · cases hy
    exact ⟨rfl, by rw [isNon_eq hx]; exact k.now j (.bl _) g⟩
  · exact g.elim
theorem pd_isN (ha : PD X a ta) (hb : PD X b tb) : PD X (.Compare a [.Is] [b] pos) (dOp gIsN ta tb) := pd_cmp op_isN lf_isN ha hb (nomark _)
theorem pd_notN (ha : PD X a ta) (hb : PD X b tb) : PD X (.Compare a [.IsNot] [b] pos) (dOp gNotN ta tb) := pd_cmp op_notN lf_notN ha hb (nomark _)
theorem pt_isN (ha : PD X a ta) (hb : PD X b tb) : PDT X (.Compare a [.Is] [b] pos) (dB (dOp gIsN ta tb)) := pt_c op_isN lf_isN ha hb (nomark _)
theorem pt_notN (ha : PD X a ta) (hb : PD X b tb) : PDT X (.Compare a [.IsNot] [b] pos) (dB (dOp gNotN ta tb)) := pt_c op_notN lf_notN ha hb (nomark _)

/-! subscripts -/
theorem DaL.atI {μ : Mu} {H : Hp} {vs : List V} {ds : List D} {i : Int} {d : D} (l : DaL K μ H vs ds) (h : L2.atI ds i = some d) : ∃ v, L2.atI vs i = some v ∧ Da K μ H v d := by
  unfold L2.atI at h ⊢
  rw [l.length]
  cases q : ixN ds.length i with
  | none => rw [q] at h; cases h
  | some n =>
    rw [q] at h
    exact l.get (i := n) h
def gIx : G2 := fun x y μ Q => match vw μ x, y with
  | .lst xs, .int i => match L2.atI xs i with
    | some d => Q d μ
    | none => False
  | .sq xs, .int i => match L2.atI xs i with
    | some d => Q d μ
    | none => False
  | .tup xs, .int i => match L2.atI xs i with
    | some d => Q d μ
    | none => False
  | .str z, .int i => z.length ≤ sizeLine ∧ match L2.atI z.cps.toList i with
    | some c => Q (.str ⟨#[c]⟩) μ
    | none => False
  | _, _ => False
/-- a list as it stands now, kept apart or among the things that change -/
theorem Da.nowL {μ : Mu} {H : Hp} {v : V} {d : D} {xs : List D} (j : J K μ H) (h : Da K μ H v d) (e : vw μ d = .lst xs) : ∃ a vs, v = .ref a ∧ H a = some (.lst vs) ∧ DaL K μ H vs xs := by
  cases h with
  | lst n e' l =>
    simp only [vw] at e
    cases e
    exact ⟨_, _, rfl, e', l⟩
  | ref a =>
    simp only [vw] at e
    cases q : μ a with
    | none => rw [q] at e; cases e
    | some o =>
      rw [q] at e
      cases o with
      | lst ys =>
        simp only at e
        cases e
        obtain ⟨vs, e1, l⟩ := j a _ q
        exact ⟨a, vs, rfl, e1, l⟩
      | _ => cases e
  | _ => simp [vw] at e
theorem Da.nowT {μ : Mu} {H : Hp} {v : V} {d : D} {xs : List D} (j : J K μ H) (h : Da K μ H v d) (e : vw μ d = .tup xs) : ∃ a vs, v = .ref a ∧ SqT K H a vs ∧ DaL K μ H vs xs := by
  cases h with
  | tup e' l =>
    simp only [vw] at e
    cases e
    exact ⟨_, _, rfl, Da.sqT e', l⟩
  | ref a =>
    simp only [vw] at e
    split at e <;> cases e
  | _ => simp [vw] at e
theorem Da.nowS {μ : Mu} {H : Hp} {v : V} {d : D} {xs : List D} (j : J K μ H) (h : Da K μ H v d) (e : vw μ d = .sq xs) : ∃ a vs, v = .ref a ∧ SqL K H a vs ∧ DaL K μ H vs xs := by
  cases h with
  | sq e' l =>
    simp only [vw] at e
    cases e
    exact ⟨_, _, rfl, Da.sqL e', l⟩
  | ref a =>
    simp only [vw] at e
    split at e <;> cases e
  | _ => simp [vw] at e
theorem Da.nowStr {μ : Mu} {H : Hp} {v : V} {d : D} {z : Str} (h : Da K μ H v d) (e : vw μ d = .str z) : v = .str z := by
  cases h with
  | str x => simp only [vw] at e; cases e; rfl
  | ref a =>
    simp only [vw] at e
    split at e <;> cases e
  | _ => simp [vw] at e
theorem lf_ix : Lf2 K (rIx K) gIx := @fun x y dx dy H μ Q Qd j hx hy g k => by
  unfold gIx at g
  split at g
  · rename_i xs i e
    obtain ⟨a, vs, rfl, ea, l⟩ := hx.nowL j e
    cases hy
    split at g
    · rename_i d q
      obtain ⟨v, e1, h1⟩ := l.atI q
      exact .inl ⟨a, vs, i, v, rfl, rfl, SqL.of ea, e1, k.now j h1 g⟩
    · exact g.elim
  · rename_i xs i e
    obtain ⟨a, vs, rfl, ea, l⟩ := hx.nowS j e
    cases hy
    split at g
    · rename_i d q
      obtain ⟨v, e1, h1⟩ := l.atI q
      exact .inl ⟨a, vs, i, v, rfl, rfl, ea, e1, k.now j h1 g⟩
    · exact g.elim
  · rename_i xs i e
    obtain ⟨a, vs, rfl, ea, l⟩ := hx.nowT j e
    cases hy
    split at g
    · rename_i d q
      obtain ⟨v, e1, h1⟩ := l.atI q
      exact .inr (.inl ⟨a, vs, i, v, rfl, rfl, ea, e1, k.now j h1 g⟩)
    · exact g.elim
  · rename_i z i e
    have ez := hx.nowStr e
    subst ez
    cases hy
    obtain ⟨g0, g⟩ := g
    split at g
    · rename_i c q
      exact .inr (.inr ⟨z, i, c, rfl, rfl, g0, q, k.now j (.str _) g⟩)
    · exact g.elim
  · exact g.elim
theorem pd_at (ha : PD X a ta) (hb : PD X b tb) (hs : PlainIx b := by exact fun _ _ => rfl) : PD X (.Subscript a b pos) (dOp gIx ta tb) := pd_ix ix_seq lf_ix ha hb hs
end
end Dl

namespace Dl
open PySem PySem.Spec PyProof.Rows L2
/-! ### slices -/
abbrev DO := Ro → Mu → (Option Int → Mu → Prop) → Prop
structure PDO (X : Cx) (e : Option Expr) (t : DO) : Prop where
  ex : ∃ te, PO X e te ∧ ∀ {σ : L2.St} {H : Hp} {ρ : Ro} {μ : Mu} {Q : Option Int → Hp → Prop} {Qd : Option Int → Mu → Prop}, Okd X.K μ H σ ρ → t ρ μ Qd →
    (∀ o H' μ', Gr μ H μ' H' → J X.K μ' H' → Qd o μ' → Q o H') → te σ H Q
def dNo : DO := fun _ μ Q => Q none μ
def dSome (t : DE) : DO := fun ρ μ Q => t ρ μ fun x μ1 => match x with
  | .int i => Q (some i) μ1
  | _ => False
def cutD (xs : List D) (lo hi : Option Int) : List D := (xs.drop (HT.sIx xs.length 0 lo)).take (HT.sIx xs.length xs.length hi - HT.sIx xs.length 0 lo)
section
variable {X : Cx} {K : PySem.W.Frag} {a b e o : Expr} {es : List Expr} {ta tb te : DE} {tA : DA} {pos p p1 p2 p3 : Pos} {lo hi : Option Expr} {tl th : DO}
theorem pdo_none : PDO X none dNo := ⟨_, po_none, @fun σ H ρ μ Q Qd o t k => k _ _ _ Gr.refl o.j t⟩
theorem pdo_some (h : PD X e te) : PDO X (some e) (dSome te) := by
  obtain ⟨ea, pa, fa⟩ := h.ex
  refine ⟨_, po_some pa, @fun σ H ρ μ Q Qd o t k => ?_⟩
  refine fa o t fun x dx H1 μ1 g1 j1 h1 t1 => ?_
  match dx, h1, t1 with
  | .int i, .int _, t1 => exact ⟨i, rfl, k _ _ _ g1 j1 t1⟩
theorem DaL.cut {μ : Mu} {H : Hp} {vs : List V} {ds : List D} (l : DaL K μ H vs ds) (lo hi : Option Int) : DaL K μ H (cutV vs lo hi) (cutD ds lo hi) := by
  unfold cutV cutD
  rw [l.length]
  exact (l.drop _).take _
theorem cutD_whole {xs : List D} {lo hi : Option Int} (h : HT.sIx xs.length 0 lo = 0 ∧ HT.sIx xs.length xs.length hi = xs.length) : cutD xs lo hi = xs := by
  unfold cutD
  rw [h.1, h.2]
  simp
def gSl : D → Option Int → Option Int → Mu → DQ → Prop := fun x l u μ Q => match vw μ x with
  | .lst xs => Q (.lst (cutD xs l u)) μ
  | .sq xs => Q (.lst (cutD xs l u)) μ
  | .tup xs => Q (.tup (cutD xs l u)) μ
  | .str z => z.length ≤ sizeLine ∧ Q (.str (cutS z l u)) μ
  | _ => False
def dSl (te : DE) (tl th : DO) : DE := fun ρ μ Q => te ρ μ fun x μ1 => tl ρ μ1 fun l μ2 => th ρ μ2 fun u μ3 => gSl x l u μ3 Q
theorem pd_slice (he : PD X e te) (hl : PDO X lo tl) (hh : PDO X hi th) : PD X (.Subscript e (.Slice lo hi none p2) pos) (dSl te tl th) := by
  obtain ⟨ee, pe, fe⟩ := he.ex
  obtain ⟨el, pl, fl⟩ := hl.ex
  obtain ⟨eh, ph, fh⟩ := hh.ex
  refine ⟨_, pe_slice (sl_list.or (sl_tupA.or sl_str)) pe pl ph, @fun σ H ρ μ Q Qd o t k => ?_⟩
  refine fe o t fun x dx H1 μ1 g1 j1 h1 t1 => ?_
  have o1 := o.grow g1 j1
  refine fl o1 t1 fun l H2 μ2 g2 j2 t2 => ?_
  have o2 := o1.grow g2 j2
  refine fh o2 t2 fun u H3 μ3 g3 j3 t3 => ?_
  have hx : Da X.K μ3 H3 x dx := (h1.grow g2).grow g3
  have k3 := ((k.after g1).after g2).after g3
  unfold gSl at t3
  split at t3
  · rename_i xs q
    obtain ⟨a, vs, rfl, ea, l⟩ := hx.nowL j3 q
    exact .inl ⟨a, vs, rfl, SqL.of ea, fun p n => k3.new j3 n (da_lst j3 n (l.cut _ _)) t3⟩
  · rename_i xs q
    obtain ⟨a, vs, rfl, ea, l⟩ := hx.nowS j3 q
    exact .inl ⟨a, vs, rfl, ea, fun p n => k3.new j3 n (da_lst j3 n (l.cut _ _)) t3⟩
  · rename_i xs q
    cases hx with
    | tup e' l =>
      simp only [vw] at q
      cases q
      refine .inr (.inl ⟨_, _, rfl, Da.sqT e', fun z => ?_, fun _ p n => k3.new j3 n (da_tup j3 n (l.cut _ _)) t3⟩)
      rw [l.length] at z
      rw [cutD_whole z] at t3
      exact k3.now j3 (.tup e' l) t3
    | ref a =>
      simp only [vw] at q
      split at q <;> cases q
    | _ => simp [vw] at q
  · rename_i z q
    have ez := hx.nowStr q
    subst ez
    exact .inr (.inr ⟨z, rfl, t3.1, k3.now j3 (.str _) t3.2⟩)
  · exact t3.elim
/-- xs[::-1] -/
def gRev : D → Mu → DQ → Prop := fun x μ Q => match vw μ x with
  | .lst xs => Q (.lst xs.reverse) μ
  | .sq xs => Q (.lst xs.reverse) μ
  | .tup xs => Q (.tup xs.reverse) μ
  | _ => False
/-- the new list will be changed -/
def gRevM : D → Mu → DQ → Prop := fun x μ Q => match vw μ x with
  | .lst xs => ∀ p, μ p = none → Q (.ref p) (mup μ p (.lst xs.reverse))
  | _ => False
theorem pd_rev {k : Nat} (he : PD X e te) : PD X (.Subscript e (.Slice none none (some (.UnaryOp .USub (.Constant (.int 1) k p1) p2)) p3) pos) (dUn gRev te) := by
  obtain ⟨ee, pe, fe⟩ := he.ex
  refine ⟨_, pe_rev pe, @fun σ H ρ μ Q Qd o t k => fe o t fun x dx H1 μ1 g1 j1 h1 t1 => ?_⟩
  have k1 := k.after g1
  unfold gRev at t1
  split at t1
  · rename_i xs q
    obtain ⟨a, vs, rfl, ea, l⟩ := h1.nowL j1 q
    exact .inl ⟨a, vs, rfl, SqL.of ea, fun p n => k1.new j1 n (da_lst j1 n l.rev) t1⟩
  · rename_i xs q
    obtain ⟨a, vs, rfl, ea, l⟩ := h1.nowS j1 q
    exact .inl ⟨a, vs, rfl, ea, fun p n => k1.new j1 n (da_lst j1 n l.rev) t1⟩
  · rename_i xs q
    obtain ⟨a, vs, rfl, ea, l⟩ := h1.nowT j1 q
    exact .inr ⟨a, vs, rfl, ea, fun p n => k1.new j1 n (da_tup j1 n l.rev) t1⟩
  · exact t1.elim
theorem pd_revM {k : Nat} (he : PD X e te) : PD X (.Subscript e (.Slice none none (some (.UnaryOp .USub (.Constant (.int 1) k p1) p2)) p3) pos) (dUn gRevM te) := by
  obtain ⟨ee, pe, fe⟩ := he.ex
  refine ⟨_, pe_rev pe, @fun σ H ρ μ Q Qd o t k => fe o t fun x dx H1 μ1 g1 j1 h1 t1 => ?_⟩
  have k1 := k.after g1
  unfold gRevM at t1
  split at t1
  · rename_i xs q
    obtain ⟨a, vs, rfl, ea, l⟩ := h1.nowL j1 q
    exact .inl ⟨a, vs, rfl, SqL.of ea, fun p n => k1 _ _ _ _ (Gr.born n) (j1.born (u := .lst xs.reverse) n ⟨_, upd_same, l.rev.grow (Gr.born n)⟩) (.ref p) (t1 p (j1.free n))⟩
  · exact t1.elim

/-! ### built-ins on data -/
theorem DaL.one {μ : Mu} {H : Hp} {vs : List V} {d : D} (l : DaL K μ H vs [d]) : ∃ v, vs = [v] ∧ Da K μ H v d := by
  cases l with | cons h t => cases t; exact ⟨_, rfl, h⟩
theorem DaL.two {μ : Mu} {H : Hp} {vs : List V} {d d' : D} (l : DaL K μ H vs [d, d']) : ∃ v v', vs = [v, v'] ∧ Da K μ H v d ∧ Da K μ H v' d' := by
  cases l with | cons h t => cases t with | cons h' t' => cases t'; exact ⟨_, _, rfl, h, h'⟩
def gLen : List D → Mu → DQ → Prop := fun ds μ Q => match ds with
  | [d] => match vw μ d with
    | .lst xs => Q (.int xs.length) μ
    | .sq xs => Q (.int xs.length) μ
    | .tup xs => Q (.int xs.length) μ
    | .str z => z.length ≤ sizeLine ∧ Q (.int z.length) μ
    | _ => False
  | _ => False
theorem lf_len : LfL K (fun xs H Q => ∃ x n, xs = [x] ∧ LenV K x H n ∧ Q (.int n) H) gLen := @fun xs ds H μ Q Qd j h g k => by
  unfold gLen at g
  split at g
  · rename_i d
    obtain ⟨v, rfl, hv⟩ := h.one
    split at g
    · rename_i xs q
      obtain ⟨a, vs, rfl, ea, l⟩ := hv.nowL j q
      exact ⟨_, xs.length, rfl, .inl ⟨vs, SqL.of ea, l.length.symm⟩, k.now j (.int _) g⟩
    · rename_i xs q
      obtain ⟨a, vs, rfl, ea, l⟩ := hv.nowS j q
      exact ⟨_, xs.length, rfl, .inl ⟨vs, ea, l.length.symm⟩, k.now j (.int _) g⟩
    · rename_i xs q
      obtain ⟨a, vs, rfl, ea, l⟩ := hv.nowT j q
      exact ⟨_, xs.length, rfl, .inr ⟨vs, ea, l.length.symm⟩, k.now j (.int _) g⟩
    · rename_i z q
      have ez := hv.nowStr q
      subst ez
      exact ⟨_, z.length, rfl, ⟨g.1, rfl⟩, k.now j (.int _) g.2⟩
    · exact g.elim
  · exact g.elim
theorem pd_len (hm : X.mg "len" = none) (ha : PD X a ta) (hg : Gl X "len" := by rfl) (hs : starEach [a] X.env = (false, eval a X.env) :: starEach [] X.env := by rfl) : PD X (.Call (.Name "len" p) [a] [] pos) (dCB gLen (dCons ta dNil)) :=
  pd_b call_len lf_len hm PySem.boot_len (pda_cons ha pda_nil hs) hg (by decide) (by decide) hs rfl
/-- a row of items as it stands -/
theorem Da.row {μ : Mu} {H : Hp} {v : V} {d : D} (j : J K μ H) (h : Da K μ H v d) : ∀ {xs : List D}, vw μ d = .lst xs ∨ vw μ d = .sq xs ∨ vw μ d = .tup xs → ∃ a vs, v = .ref a ∧ (SqL K H a vs ∨ SqT K H a vs) ∧ DaL K μ H vs xs := by
  rintro xs (q | q | q)
  · obtain ⟨a, vs, e, ea, l⟩ := h.nowL j q; exact ⟨a, vs, e, .inl (SqL.of ea), l⟩
  · obtain ⟨a, vs, e, ea, l⟩ := h.nowS j q; exact ⟨a, vs, e, .inl ea, l⟩
  · obtain ⟨a, vs, e, ea, l⟩ := h.nowT j q; exact ⟨a, vs, e, .inr ea, l⟩
def rowOf (μ : Mu) (d : D) : Option (List D) := match vw μ d with
  | .lst xs => some xs
  | .sq xs => some xs
  | .tup xs => some xs
  | _ => none
theorem row_of {μ : Mu} {d : D} {xs : List D} (h : rowOf μ d = some xs) : vw μ d = .lst xs ∨ vw μ d = .sq xs ∨ vw μ d = .tup xs := by
  unfold rowOf at h
  split at h <;> cases h
  · rename_i q; exact .inl q
  · rename_i q; exact .inr (.inl q)
  · rename_i q; exact .inr (.inr q)
def gList : List D → Mu → DQ → Prop := fun ds μ Q => match ds with
  | [d] => match rowOf μ d with
    | some xs => Q (.lst xs) μ
    | none => False
  | _ => False
theorem pd_list (hm : X.mg "list" = none) (hv : bootBuiltins "list" = some (.type "list")) (ha : PD X a ta) (hg : Gl X "list" := by rfl) (hs : starEach [a] X.env = (false, eval a X.env) :: starEach [] X.env := by rfl) : PD X (.Call (.Name "list" p) [a] [] pos) (dCB gList (dCons ta dNil)) := by
  refine pd_ty call_list_of (@fun xs ds H μ Q Qd j h g k => ?_) hm hv (pda_cons ha pda_nil hs) hg (by decide) (by decide) hs rfl
  unfold gList at g
  split at g
  · obtain ⟨v, rfl, hv⟩ := h.one
    split at g
    · rename_i xs q
      obtain ⟨a, vs, rfl, ea, l⟩ := hv.row j (row_of q)
      exact ⟨a, vs, rfl, ea, fun p n => k.new j n (da_lst j n l) g⟩
    · exact g.elim
  · exact g.elim
def gMax2 : List D → Mu → DQ → Prop := fun ds μ Q => match ds with
  | [.int i, .int j] => Q (.int (if j > i then j else i)) μ
  | _ => False
theorem pd_max2 (hc : X.calm = true) (hm : X.mg "max" = none) (hv : bootBuiltins "max" = some (.builtin "max")) (ha : PDA X (e :: es) tA) (hg : Gl X "max" := by rfl) (he : starEach (e :: es) X.env = (false, eval e X.env) :: starEach es X.env := by rfl)
    (hpl : (backTo pos (starEach es X.env)).any (·.1) = false := by rfl) : PD X (.Call (.Name "max" p) (e :: es) [] pos) (dCB gMax2 tA) := by
  refine pd_b (call_max2 hc) (@fun xs ds H μ Q Qd j h g k => ?_) hm hv ha hg (by decide) (by decide) he hpl
  unfold gMax2 at g
  split at g
  · obtain ⟨v, v', rfl, h1, h2⟩ := h.two
    cases h1; cases h2
    exact ⟨_, _, rfl, k.now j (.int _) g⟩
  · exact g.elim
/-- repr of data, where no repr is under way -/
theorem call_reprD {k : Nat} (hr : Room k X.A) (hgu : X.A.guards = some []) : CallR X (.builtin "repr") (fun xs H Q => ∃ x d, xs = [x] ∧ Dp X.K H x d ∧ d.plain = true ∧ d.showable = true ∧ d.hasDict = false ∧ d.depth ≤ 64 ∧ d.shown.length ≤ sizeLine ∧ (∃ a, x = .ref a) ∧ Q (.str d.shown) H) := by
  intro pins s σ H xs us Q I r h
  obtain ⟨x, d, rfl, hd, hp, hs, hn, hz, hl, ⟨a, rfl⟩, q⟩ := h
  cases r with | cons rx rr =>
  cases rr
  cases rx
  obtain ⟨as, rd⟩ := Dp.reads I d _ _ hd rfl
  have hu := hr.un
  refine repr_of_reads' (h₀ := s.heap) rd hs (PyData.noDict_hsm hn) hgu (by omega) (fun _ _ e => e) (fun h' u tk kk => ?_) hl
  exact ⟨.str d.shown, H, I.kept kk, ⟨u, rfl⟩, q⟩
end
end Dl

namespace Dl
open PySem PySem.Spec PyProof.Rows L2
section
variable {X : Cx} {K : PySem.W.Frag} {a b e o : Expr} {es : List Expr} {ta tb te to : DE} {tA : DA} {pos p apos : Pos}
/-! ### repr -/
mutual
theorem py_noDict : ∀ d : D, (py d).hasDict = false
  | .non => by simp only [py, PyData.hasDict]
  | .bl b => by simp only [py, PyData.hasDict]
  | .int i => by simp only [py, PyData.hasDict]
  | .str x => by simp only [py, PyData.hasDict]
  | .ty _ => by simp only [py, PyData.hasDict]
  | .ref _ => by simp only [py, PyData.hasDict]
  | .lst xs => by simp only [py, PyData.hasDict]; exact pyL_noDict xs
  | .sq xs => by simp only [py, PyData.hasDict]; exact pyL_noDict xs
  | .tup xs => by simp only [py, PyData.hasDict]; exact pyL_noDict xs
  | .obj _ _ => by simp only [py, PyData.hasDict]
theorem pyL_noDict : ∀ ds : List D, PyData.hasDictAll (pyL ds) = false
  | [] => by simp only [pyL, PyData.hasDictAll]
  | x :: xs => by simp only [pyL, PyData.hasDictAll, py_noDict x, pyL_noDict xs, Bool.or_self]
end
/-- what repr asks of data, and its text -/
def Shows (d : D) : Prop := pur d = true ∧ (py d).showable = true ∧ (py d).depth ≤ 64 ∧ (py d).shown.length ≤ sizeLine
def gRepr : List D → Mu → DQ → Prop := fun ds μ Q => match ds with
  | [d] => (rowOf μ d).isSome = true ∧ Shows (vw μ d) ∧ Q (.str (py (vw μ d)).shown) μ
  | _ => False
theorem pd_repr {k : Nat} (hr : Room k X.A) (hgu : X.A.guards = some []) (hm : X.mg "repr" = none) (hv : bootBuiltins "repr" = some (.builtin "repr")) (ha : PD X a ta) (hg : Gl X "repr" := by rfl) (hs : starEach [a] X.env = (false, eval a X.env) :: starEach [] X.env := by rfl) :
    PD X (.Call (.Name "repr" p) [a] [] pos) (dCB gRepr (dCons ta dNil)) := by
  refine pd_b (call_reprD hr hgu) (@fun xs ds H μ Q Qd j h g k => ?_) hm hv (pda_cons ha pda_nil hs) hg (by decide) (by decide) hs rfl
  unfold gRepr at g
  split at g
  · obtain ⟨v, rfl, hv⟩ := h.one
    obtain ⟨g1, ⟨g2, g3, g4, g5⟩, g6⟩ := g
    obtain ⟨xs, hx⟩ := Option.isSome_iff_exists.mp g1
    obtain ⟨a, vs, e, _, _⟩ := hv.row j (row_of hx)
    exact ⟨v, _, rfl, hv.vdp j g2, py_plain _, g3, py_noDict _, g4, g5, ⟨a, e⟩, k.now j (.str _) g6⟩
  · exact g.elim

/-! ### methods of a list that changes -/
def dM0 (g : D → Mu → DQ → Prop) (to : DE) : DE := fun ρ μ Q => to ρ μ fun x μ1 => g x μ1 Q
def dM (g : D → List D → Mu → DQ → Prop) (to : DE) (t : DA) : DE := fun ρ μ Q => to ρ μ fun x μ1 => (∃ a xs, x = .ref a ∧ μ1 a = some (.lst xs)) ∧ t ρ μ1 fun ds μ2 => g x ds μ2 Q
def gPop : D → Mu → DQ → Prop := fun x μ Q => match x with
  | .ref a => match μ a with
    | some (.lst xs) => match xs[xs.length - 1]? with
      | some d => Q d (mup μ a (.lst xs.dropLast))
      | none => False
    | _ => False
  | _ => False
def gAppend : D → List D → Mu → DQ → Prop := fun x ds μ Q => match x, ds with
  | .ref a, [d] => match μ a with
    | some (.lst xs) => xs.length < sizeLine ∧ Q .non (mup μ a (.lst (xs ++ [d])))
    | _ => False
  | _, _ => False
theorem DaL.dropLast {μ : Mu} {H : Hp} {vs : List V} {ds : List D} (l : DaL K μ H vs ds) : DaL K μ H vs.dropLast ds.dropLast := by
  rw [List.dropLast_eq_take, List.dropLast_eq_take, l.length]
  exact l.take _
theorem pd_pop (ho : PD X o to) (hbase : attributeBase o "pop" X.env (eval o X.env) = eval o X.env := by rfl) (hline : (apos.endLine == pos.line) = true := by rfl) : PD X (.Call (.Attribute o "pop" apos) [] [] pos) (dM0 gPop to) := by
  obtain ⟨ea, pa, fa⟩ := ho.ex
  refine ⟨_, pe_bm0 PySem.F.plainAttrs_list PySem.F.slot_list_pop PySem.F.type_list_pop mt_pop pa hbase hline, @fun σ H ρ μ Q Qd o t k => ?_⟩
  refine fa o t fun x dx H1 μ1 g1 j1 h1 t1 => ?_
  unfold gPop at t1
  split at t1
  · rename_i a
    cases h1
    split at t1
    · rename_i xs q
      obtain ⟨vs, e, l⟩ := j1 a _ q
      split at t1
      · rename_i d qd
        obtain ⟨v, ev, hv⟩ := l.get qd
        refine ⟨.inl ⟨rfl, vs, SqL.of e⟩, a, vs, v, rfl, rfl, e, by rw [l.length]; exact ev, ?_⟩
        have gg : Gr μ1 H1 (mup μ1 a (.lst xs.dropLast)) (upd H1 a (.lst vs.dropLast)) := Gr.turn q
        exact (k.after g1) _ _ _ _ gg (j1.turn q ⟨_, upd_same, l.dropLast.grow gg⟩) (hv.grow gg) t1
      · exact t1.elim
    · exact t1.elim
  · exact t1.elim
theorem pd_append (ho : PD X o to) (ha : PDA X (e :: es) tA) (hbase : attributeBase o "append" X.env (eval o X.env) = eval o X.env := by rfl)
    (hfew : ((backTo pos (starEach (e :: es) X.env)).all (fun x => !x.1) && (backToKw pos (keywordEach [] X.env)).all (fun x => x.1.isSome)
      && decide ((e :: es).length + ([] : List Keyword).length + (if ([] : List Keyword).isEmpty then 0 else 1) < 30)) = true := by rfl)
    (hline : (apos.endLine == pos.line) = true := by rfl) (hs : starEach (e :: es) X.env = (false, eval e X.env) :: starEach es X.env := by rfl) (hplain : (backTo pos (starEach es X.env)).any (·.1) = false := by rfl) :
    PD X (.Call (.Attribute o "append" apos) (e :: es) [] pos) (dM gAppend to tA) := by
  obtain ⟨eo, po, fo⟩ := ho.ex
  obtain ⟨ea, pa, fa⟩ := ha.ex
  refine ⟨_, pe_bm PySem.F.plainAttrs_list PySem.F.slot_list_append PySem.F.type_list_append mt_append po pa hbase hfew hline hs hplain, @fun σ H ρ μ Q Qd o t k => ?_⟩
  refine fo o t fun x dx H1 μ1 g1 j1 h1 t1 => ?_
  obtain ⟨⟨a, xs, rfl, q⟩, t1⟩ := t1
  cases h1
  obtain ⟨vs, e, l⟩ := j1 a _ q
  refine ⟨.inl ⟨rfl, vs, SqL.of e⟩, fa (o.grow g1 j1) t1 fun us ds H2 μ2 g2 j2 h2 t2 => ?_⟩
  unfold gAppend at t2
  split at t2
  · rename_i a d ez
    cases ez
    obtain ⟨v, rfl, hv⟩ := h2.one
    split at t2
    · rename_i ys q2
      obtain ⟨ws, e2, l2⟩ := j2 a _ q2
      have gg : Gr μ2 H2 (mup μ2 a (.lst (ys ++ [d]))) (upd H2 a (.lst (ws ++ [v]))) := Gr.turn q2
      refine ⟨a, ws, v, rfl, rfl, e2, by rw [l2.length]; exact t2.1, ?_⟩
      exact ((k.after g1).after g2) _ _ _ _ gg (j2.turn q2 ⟨_, upd_same, (l2.append (.cons hv .nil)).grow gg⟩) .non t2.2
    · exact t2.elim
  · exact t2.elim
end

/-! ### statements -/
structure DEnds where
  nx : Ro → Mu → Prop
  rt : DQ
  bk : Ro → Mu → Prop := fun _ _ => False
  ct : Ro → Mu → Prop := fun _ _ => False
abbrev DS := DEnds → Ro → Mu → Prop
abbrev DG := D → Ro → Mu → (Ro → Mu → Prop) → Prop
abbrev DGs := List D → Ro → Mu → (Ro → Mu → Prop) → Prop
def KtS (K : PySem.W.Frag) (μ : Mu) (H : Hp) (Q : L2.St → Hp → Prop) (Qd : Ro → Mu → Prop) : Prop := ∀ σ' H' ρ' μ', Gr μ H μ' H' → Okd K μ' H' σ' ρ' → Qd ρ' μ' → Q σ' H'
structure EK (K : PySem.W.Frag) (μ : Mu) (H : Hp) (D : Ends) (Dd : DEnds) : Prop where
  nx : KtS K μ H D.nx Dd.nx
  rt : Kt K μ H D.rt Dd.rt
  bk : KtS K μ H D.bk Dd.bk
  ct : KtS K μ H D.ct Dd.ct
section
variable {K : PySem.W.Frag} {μ μ1 : Mu} {H H1 : Hp}
theorem KtS.after {Q : L2.St → Hp → Prop} {Qd : Ro → Mu → Prop} (k : KtS K μ H Q Qd) (g : Gr μ H μ1 H1) : KtS K μ1 H1 Q Qd := fun σ' H' ρ' μ' g' o q => k σ' H' ρ' μ' (g.trans g') o q
theorem EK.after {D : Ends} {Dd : DEnds} (k : EK K μ H D Dd) (g : Gr μ H μ1 H1) : EK K μ1 H1 D Dd := ⟨k.nx.after g, k.rt.after g, k.bk.after g, k.ct.after g⟩
end
structure PDS (X : Cx) (st : Stmt) (t : DS) : Prop where
  ex : ∃ ts, PS X st ts ∧ ∀ {σ : L2.St} {H : Hp} {ρ : Ro} {μ : Mu} {D : Ends} {Dd : DEnds}, Okd X.K μ H σ ρ → t Dd ρ μ → EK X.K μ H D Dd → ts D σ H
structure PDSs (X : Cx) (st : List Stmt) (t : DS) : Prop where
  ex : ∃ ts, PSs X st ts ∧ ∀ {σ : L2.St} {H : Hp} {ρ : Ro} {μ : Mu} {D : Ends} {Dd : DEnds}, Okd X.K μ H σ ρ → t Dd ρ μ → EK X.K μ H D Dd → ts D σ H
structure PDG (X : Cx) (tg : Expr) (t : DG) : Prop where
  ex : ∃ g, PG X tg g ∧ ∀ {v : V} {d : D} {σ : L2.St} {H : Hp} {ρ : Ro} {μ : Mu} {Q : L2.St → Hp → Prop} {Qd : Ro → Mu → Prop}, Okd X.K μ H σ ρ → Da X.K μ H v d → t d ρ μ Qd → KtS X.K μ H Q Qd → g v σ H Q
structure PDGs (X : Cx) (tg : List Expr) (t : DGs) : Prop where
  ex : ∃ g, PGs X tg g ∧ ∀ {v : List V} {d : List D} {σ : L2.St} {H : Hp} {ρ : Ro} {μ : Mu} {Q : L2.St → Hp → Prop} {Qd : Ro → Mu → Prop}, Okd X.K μ H σ ρ → DaL X.K μ H v d → t d ρ μ Qd → KtS X.K μ H Q Qd → g v σ H Q
section
variable {X : Cx} {K : PySem.W.Frag} {a b e o : Expr} {es : List Expr} {ta tb te to ti : DE} {tA : DA} {pos p apos : Pos} {st : Stmt} {sts rest : List Stmt} {t u : DS} {tT : DT}
def dSeq (t u : DS) : DS := fun D ρ μ => t { D with nx := u D } ρ μ
def dNext : DS := fun D ρ μ => D.nx ρ μ
theorem ds_nil : PDSs X [] dNext := ⟨_, pss_nil, @fun σ H ρ μ D Dd o t k => k.nx _ _ _ _ Gr.refl o t⟩
theorem ds_one (h : PDS X st t) : PDSs X [st] t := by
  obtain ⟨ts, ps, f⟩ := h.ex
  exact ⟨_, pss_one ps, @fun σ H ρ μ D Dd o t k => f o t k⟩
theorem ds_cons (h1 : PDS X st t) (h2 : PDSs X rest u) : PDSs X (st :: rest) (dSeq t u) := by
  obtain ⟨ts, ps, f⟩ := h1.ex
  obtain ⟨us, qs, g⟩ := h2.ex
  refine ⟨_, pss_cons ps qs, @fun σ H ρ μ D Dd o t k => f o t ⟨fun σ1 H1 ρ1 μ1 g1 o1 q1 => g o1 q1 (k.after g1), k.rt, k.bk, k.ct⟩⟩
/-- what holds between two statements is said: the ways behind the first one join -/
def dCut (t u : DS) : DS := fun D ρ μ => ∃ M : Ro → Mu → Prop, t { D with nx := M } ρ μ ∧ ∀ ρ μ, M ρ μ → u D ρ μ
theorem ds_cut (h1 : PDS X st t) (h2 : PDSs X rest u) : PDSs X (st :: rest) (dCut t u) := by
  obtain ⟨ts, ps, f⟩ := h1.ex
  obtain ⟨us, qs, g⟩ := h2.ex
  refine ⟨_, pss_cons ps qs, @fun σ H ρ μ D Dd o t k => ?_⟩
  obtain ⟨M, h, hM⟩ := t
  exact f o h ⟨fun σ1 H1 ρ1 μ1 g1 o1 q1 => g o1 (hM _ _ q1) (k.after g1), k.rt, k.bk, k.ct⟩
def dDrop (te : DE) : DS := fun D ρ μ => te ρ μ fun _ μ1 => D.nx ρ μ1
theorem ds_expr (he : PD X e te) (hs : swapsWith e none pos.line X.env = pure false := by rfl) : PDS X (.Expr e pos) (dDrop te) := by
  obtain ⟨ea, pa, fa⟩ := he.ex
  exact ⟨_, ps_expr pa hs, @fun σ H ρ μ D Dd o t k => fa o t fun x dx H1 μ1 g1 j1 h1 t1 => k.nx _ _ _ _ g1 (o.grow g1 j1) t1⟩
def dRet (te : DE) : DS := fun D ρ μ => te ρ μ D.rt
theorem ds_ret (he : PD X e te) : PDS X (.Return (some e) pos) (dRet te) := by
  obtain ⟨ea, pa, fa⟩ := he.ex
  exact ⟨_, ps_ret pa, @fun σ H ρ μ D Dd o t k => fa o t k.rt⟩
def dIf (c : DT) (t u : DS) : DS := fun D ρ μ => c ρ μ fun b μ1 => if b = true then t D ρ μ1 else u D ρ μ1
theorem ds_if {c : Expr} {x y : List Stmt} (hc : PDT X c tT) (ha : PDSs X x t) (hb : PDSs X y u) : PDS X (.If c x y pos) (dIf tT t u) := by
  obtain ⟨ec, pc, fc⟩ := hc.ex
  obtain ⟨ea, pa, fa⟩ := ha.ex
  obtain ⟨eb, pb, fb⟩ := hb.ex
  refine ⟨_, ps_if pc pa pb, @fun σ H ρ μ D Dd o t k => fc o t fun c H1 μ1 g1 j1 t1 => ?_⟩
  cases c with
  | true => exact iteT (fa (o.grow g1 j1) (by simpa using t1) (k.after g1))
  | false => exact iteF (fb (o.grow g1 j1) (by simpa using t1) (k.after g1))
/-! targets -/
def dName (i : Nat) : DG := fun d ρ μ Q => Q (ρ.set i (some d)) μ
theorem dg_name {i : Nat} {x : Str} (hN : X.N.Nodup) (hi : X.N[i]? = some x := by rfl) (hx : Loc X.env.scope x := by first | exact .inl rfl | exact .inr rfl) (hf : X.fn x = true ∨ X.env.scope.names.lookup x = some .local := by first | exact .inl rfl | exact .inr rfl | assumption) : PDG X (.Name x pos) (dName i) :=
  ⟨_, pg_name hN hi hx hf, @fun v d σ H ρ μ Q Qd o h t k => k _ _ _ _ Gr.refl (o.set i h) t⟩
def dGNil : DGs := fun ds ρ μ Q => match ds with
  | [] => Q ρ μ
  | _ => False
def dGCons (t : DG) (u : DGs) : DGs := fun ds ρ μ Q => match ds with
  | d :: r => t d ρ μ fun ρ' μ' => u r ρ' μ' Q
  | _ => False
theorem dgs_nil : PDGs X [] dGNil := by
  refine ⟨_, pgs_nil, @fun v d σ H ρ μ Q Qd o h t k => ?_⟩
  cases h with
  | nil => exact ⟨rfl, k _ _ _ _ Gr.refl o t⟩
  | cons _ _ => exact t.elim
theorem dgs_cons {tg : DG} {ug : DGs} (h1 : PDG X e tg) (h2 : PDGs X es ug) (hs : (assignEach (e :: es) X.env).map (·.2) = assign e X.env :: (assignEach es X.env).map (·.2) := by rfl) : PDGs X (e :: es) (dGCons tg ug) := by
  obtain ⟨g1, p1, f1⟩ := h1.ex
  obtain ⟨g2, p2, f2⟩ := h2.ex
  refine ⟨_, pgs_cons p1 p2 hs, @fun v d σ H ρ μ Q Qd o h t k => ?_⟩
  cases h with
  | nil => exact t.elim
  | cons h l => exact ⟨_, _, rfl, f1 o h t fun σ1 H1 ρ1 μ1 gr1 o1 q1 => f2 o1 (l.grow gr1) q1 (k.after gr1)⟩
def dGTup (n : Nat) (t : DGs) : DG := fun d ρ μ Q => match d with
  | .tup ds => ds.length = n ∧ t ds ρ μ Q
  | _ => False
theorem dg_tup {k : Nat} {tg : DGs} (hc : X.calm = true) (h : PDGs X es tg) (hn : (assignEach es X.env).length = es.length := by rfl) (hst : (assignEach es X.env).findIdx? (·.1) = none := by rfl) : PDG X (.Tuple es k pos) (dGTup es.length tg) := by
  obtain ⟨g1, p1, f1⟩ := h.ex
  refine ⟨_, pg_tup hc p1 hn hst, @fun v d σ H ρ μ Q Qd o h t k => ?_⟩
  unfold dGTup at t
  split at t
  · cases h with | tup e l =>
    exact ⟨_, _, rfl, Da.sqT e, l.length.trans t.1, f1 o l t.2 k⟩
  · exact t.elim
def dAsg (te : DE) (g : DG) : DS := fun D ρ μ => te ρ μ fun x μ1 => g x ρ μ1 D.nx
theorem ds_asg {tg : Expr} {g : DG} (he : PD X e te) (hg : PDG X tg g) (hs : swapsWithSole [tg] e pos.line X.env = pure false := by rfl) (hw : swappedStores [tg] e X.env = pure none := by rfl)
    (h1 : (assignEach [tg] X.env).map (·.2) = [assign tg X.env] := by rfl) : PDS X (.Assign [tg] e pos) (dAsg te g) := by
  obtain ⟨ea, pa, fa⟩ := he.ex
  obtain ⟨gg, pg, fg⟩ := hg.ex
  exact ⟨_, ps_asg pa pg hs hw h1, @fun σ H ρ μ D Dd o t k => fa o t fun x dx H1 μ1 g1 j1 h1 t1 => fg (o.grow g1 j1) h1 t1 (k.nx.after g1)⟩
theorem ds_set {i : Nat} {x : Str} {pos' : Pos} (hN : X.N.Nodup) (he : PD X e te) (hi : X.N[i]? = some x := by rfl) (hx : Loc X.env.scope x := by first | exact .inl rfl | exact .inr rfl) (hs : swapsWith e (some (.Name x pos')) pos.line X.env = pure false := by rfl)
    (hf : X.fn x = true ∨ X.env.scope.names.lookup x = some .local := by first | exact .inl rfl | exact .inr rfl | assumption) : PDS X (.Assign [.Name x pos'] e pos) (dAsg te (dName i)) := by
  obtain ⟨ea, pa, fa⟩ := he.ex
  exact ⟨_, ps_set hN hi hx pa hs hf, @fun σ H ρ μ D Dd o t k => fa o t fun x dx H1 μ1 g1 j1 h1 t1 => k.nx _ _ _ _ g1 ((o.grow g1 j1).set i h1) t1⟩
/-- x = e, with a word about the value -/
def dAsgC (te : DE) (i : Nat) : DS := fun D ρ μ => ∃ M : DQ, te ρ μ M ∧ ∀ d μ1, M d μ1 → D.nx (ρ.set i (some d)) μ1
theorem ds_setC {i : Nat} {x : Str} {pos' : Pos} (hN : X.N.Nodup) (he : PD X e te) (hi : X.N[i]? = some x := by rfl) (hx : Loc X.env.scope x := by first | exact .inl rfl | exact .inr rfl) (hs : swapsWith e (some (.Name x pos')) pos.line X.env = pure false := by rfl)
    (hf : X.fn x = true ∨ X.env.scope.names.lookup x = some .local := by first | exact .inl rfl | exact .inr rfl | assumption) : PDS X (.Assign [.Name x pos'] e pos) (dAsgC te i) := by
  obtain ⟨ea, pa, fa⟩ := he.ex
  refine ⟨_, ps_set hN hi hx pa hs hf, @fun σ H ρ μ D Dd o t k => ?_⟩
  obtain ⟨M, h, hM⟩ := t
  exact fa o h fun x dx H1 μ1 g1 j1 h1 t1 => k.nx _ _ _ _ g1 ((o.grow g1 j1).set i h1) (hM _ _ t1)
def dPar (i j : Nat) (t : DA) : DS := fun D ρ μ => t ρ μ fun ds μ1 => match ds with
  | [x, y] => D.nx ((ρ.set i (some x)).set j (some y)) μ1
  | _ => False
theorem ds_par {i j : Nat} {x y : Str} {px py pt : Pos} {kt k2 pt2} (hc : X.calm = true) (hN : X.N.Nodup) (ha : PDA X [a, b] tA) (hi : X.N[i]? = some x := by rfl) (hj : X.N[j]? = some y := by rfl) (hij : i ≠ j := by decide)
    (hx : X.env.scope.names.lookup x = some .local := by rfl) (hy : X.env.scope.names.lookup y = some .local := by rfl)
    (hw : swappedStores [.Tuple [.Name x px, .Name y py] kt pt] (.Tuple [a, b] k2 pt2) X.env = pure (some [x, y]) := by rfl)
    (hs : swapsWithSole [.Tuple [.Name x px, .Name y py] kt pt] (.Tuple [a, b] k2 pt2) pos.line X.env = pure false := by rfl) :
    PDS X (.Assign [.Tuple [.Name x px, .Name y py] kt pt] (.Tuple [a, b] k2 pt2) pos) (dPar i j tA) := by
  obtain ⟨ea, pa, fa⟩ := ha.ex
  refine ⟨_, ps_par hc hN hi hj hij hx hy pa hw hs, @fun σ H ρ μ D Dd o t k => fa o t fun xs ds H1 μ1 g1 j1 h1 t1 => ?_⟩
  split at t1
  · obtain ⟨v, v', rfl, h2, h3⟩ := h1.two
    exact ⟨v, v', rfl, k.nx _ _ _ _ g1 (((o.grow g1 j1).set i h2).set j h3) t1⟩
  · exact t1.elim
/-- xs[i] = e, xs a list that changes -/
def gSetL : D → D → D → Mu → (Mu → Prop) → Prop := fun x i d μ Q => match x, i with
  | .ref a, .int k => match μ a with
    | some (.lst xs) => match ixN xs.length k with
      | some j => Q (mup μ a (.lst (xs.set j d)))
      | none => False
    | _ => False
  | _, _ => False
def dSub (to ti : DE) : DG := fun d ρ μ Q => to ρ μ fun x μ1 => ti ρ μ1 fun i μ2 => gSetL x i d μ2 fun μ3 => Q ρ μ3
theorem dg_sub (ho : PD X o to) (hi : PD X a ti) (ha : ∀ v, assign (.Subscript o a pos) X.env v = (do
      let ov ← holding [v] (eval o X.env)
      let iv ← holding [v, ov] (eval a X.env)
      standAt pos
      holding [v, ov, iv] (setItem ov iv v)
      release [v, ov, iv] []) := by intro _; rfl) : PDG X (.Subscript o a pos) (dSub to ti) := by
  obtain ⟨eo, po, fo⟩ := ho.ex
  obtain ⟨ei, pi, fi⟩ := hi.ex
  refine ⟨_, pg_sub po pi set_list ha, @fun v d σ H ρ μ Q Qd o h t k => ?_⟩
  refine fo o t fun x dx H1 μ1 g1 j1 h1 t1 => ?_
  have o1 := o.grow g1 j1
  refine fi o1 t1 fun y dy H2 μ2 g2 j2 h2 t2 => ?_
  have h1' := h1.grow g2
  unfold gSetL at t2
  split at t2
  · rename_i c kk
    cases h1'
    cases h2
    split at t2
    · rename_i xs q
      obtain ⟨vs, e, l⟩ := j2 c _ q
      split at t2
      · rename_i n en
        have gg : Gr μ2 H2 (mup μ2 c (.lst (xs.set n d))) (upd H2 c (.lst (vs.set n v))) := Gr.turn q
        refine ⟨c, vs, kk, n, rfl, rfl, e, by rw [l.length]; exact en, ?_⟩
        have jj := j2.turn (o := .lst (vs.set n v)) (u' := .lst (xs.set n d)) q ⟨_, upd_same, (DaL.set ((h.grow g1).grow g2) n l).grow gg⟩
        exact k _ _ _ _ ((g1.trans g2).trans gg) ((o1.grow g2 j2).grow gg jj) t2
      · exact t2.elim
    · exact t2.elim
  · exact t2.elim

/-! for -/
/-- what is walked: the items, and what must stay true of the store for them to stay -/
structure ItD (K : PySem.W.Frag) (It : It) (xs : List D) (src : Mu → Prop) (μ1 : Mu) (H1 : Hp) : Prop where
  step : ∀ i μ H, i < xs.length → Gr μ1 H1 μ H → J K μ H → src μ → It.go i H ∧ ∀ x H', It.yld i H x H' → ∃ d, xs[i]? = some d ∧ Gr μ H μ H' ∧ J K μ H' ∧ Da K μ H' x d
  fin : ∀ μ H, Gr μ1 H1 μ H → J K μ H → src μ → It.stop xs.length H
abbrev DI := Ro → Mu → (List D → (Mu → Prop) → Mu → Prop) → Prop
structure PDI (X : Cx) (tg iter : Expr) (t : DI) : Prop where
  ex : ∃ wi, PI X tg iter wi ∧ ∀ {σ : L2.St} {H : Hp} {ρ : Ro} {μ : Mu} {R : It → Hp → Prop} {Rd : List D → (Mu → Prop) → Mu → Prop}, Okd X.K μ H σ ρ → t ρ μ Rd →
    (∀ It xs src H' μ', Gr μ H μ' H' → J X.K μ' H' → ItD X.K It xs src μ' H' → Rd xs src μ' → R It H') → wi σ H R
/-- a list, a tuple -/
def dRow (te : DE) : DI := fun ρ μ R => te ρ μ fun x μ1 => match x with
  | .lst xs => R xs (fun _ => True) μ1
  | .sq xs => R xs (fun _ => True) μ1
  | .ref a => match μ1 a with
    | some (.lst xs) => R xs (fun μ => μ a = some (.lst xs)) μ1
    | _ => False
  | _ => False
def dRowT (te : DE) : DI := fun ρ μ R => te ρ μ fun x μ1 => match x with
  | .tup xs => R xs (fun _ => True) μ1
  | _ => False
theorem lt_get {α : Type} {xs : List α} {i : Nat} (h : i < xs.length) : xs[i]? = some xs[i] := List.getElem?_eq_getElem h
theorem it_list {a : Addr} {xs : List D} {src : Mu → Prop} {μ1 : Mu} {H1 : Hp} (h : ∀ μ H, Gr μ1 H1 μ H → J K μ H → src μ → ∃ vs, SqL K H a vs ∧ DaL K μ H vs xs) : ItD K (Itl K a) xs src μ1 H1 where
  step := fun i μ H hi g j s => by
    obtain ⟨vs, hq, l⟩ := h μ H g j s
    obtain ⟨v, ev, hv⟩ := l.get (lt_get hi)
    refine ⟨⟨vs, v, hq, ev⟩, fun x H' y => ?_⟩
    obtain ⟨rfl, y⟩ := y
    have e := (y vs hq).symm.trans ev
    cases e
    exact ⟨_, lt_get hi, Gr.refl, j, hv⟩
  fin := fun μ H g j s => by
    obtain ⟨vs, hq, l⟩ := h μ H g j s
    exact ⟨vs, hq, Nat.le_of_eq l.length⟩
theorem it_tup {a : Addr} {xs : List D} {src : Mu → Prop} {μ1 : Mu} {H1 : Hp} (h : ∀ μ H, Gr μ1 H1 μ H → J K μ H → src μ → ∃ vs, SqT K H a vs ∧ DaL K μ H vs xs) : ItD K (Itt K a) xs src μ1 H1 where
  step := fun i μ H hi g j s => by
    obtain ⟨vs, hq, l⟩ := h μ H g j s
    obtain ⟨v, ev, hv⟩ := l.get (lt_get hi)
    refine ⟨⟨vs, v, hq, ev⟩, fun x H' y => ?_⟩
    obtain ⟨rfl, y⟩ := y
    have e := (y vs hq).symm.trans ev
    cases e
    exact ⟨_, lt_get hi, Gr.refl, j, hv⟩
  fin := fun μ H g j s => by
    obtain ⟨vs, hq, l⟩ := h μ H g j s
    exact ⟨vs, hq, Nat.le_of_eq l.length⟩
theorem di_list {tg : Expr} (he : PD X e te) : PDI X tg e (dRow te) := by
  obtain ⟨ea, pa, fa⟩ := he.ex
  refine ⟨_, pi_list pa, @fun σ H ρ μ R Rd o t k => fa o t fun x dx H1 μ1 g1 j1 h1 t1 => ?_⟩
  split at t1
  · cases h1 with | lst n e l =>
    exact ⟨_, rfl, ⟨_, SqL.of e⟩, k _ _ _ _ _ g1 j1 (it_list fun μ H g j _ => ⟨_, SqL.of (g.keep _ _ n e), l.grow g⟩) t1⟩
  · cases h1 with | sq e l =>
    refine ⟨_, rfl, ⟨_, Da.sqL e⟩, k _ _ _ _ _ g1 j1 (it_list fun μ H g j _ => ⟨_, ?_, l.grow g⟩) t1⟩
    rcases e with ⟨n, e⟩ | e
    · exact .inl (g.rd n e).2
    · exact .inr e
  · cases h1
    split at t1
    · rename_i q
      obtain ⟨vs, e, l⟩ := j1 _ _ q
      refine ⟨_, rfl, ⟨_, SqL.of e⟩, k _ _ _ _ _ g1 j1 (it_list fun μ H g j s => ?_) t1⟩
      obtain ⟨ws, e2, l2⟩ := j _ _ s
      exact ⟨ws, SqL.of e2, l2⟩
    · exact t1.elim
  · exact t1.elim
theorem di_tup {tg : Expr} (he : PD X e te) : PDI X tg e (dRowT te) := by
  obtain ⟨ea, pa, fa⟩ := he.ex
  refine ⟨_, pi_tup pa, @fun σ H ρ μ R Rd o t k => fa o t fun x dx H1 μ1 g1 j1 h1 t1 => ?_⟩
  split at t1
  · cases h1 with | tup e l =>
    refine ⟨_, rfl, ⟨_, Da.sqT e⟩, k _ _ _ _ _ g1 j1 (it_tup fun μ H g j _ => ⟨_, ?_, l.grow g⟩) t1⟩
    rcases e with ⟨n, e⟩ | e
    · exact .inl (g.rd n e).2
    · exact .inr e
  · exact t1.elim
def rng (lo : Int) (n : Nat) : List D := (List.range n).map fun (i : Nat) => D.int (lo + (i : Int))
theorem rng_len {lo : Int} {n : Nat} : (rng lo n).length = n := by unfold rng; simp
theorem rng_get {lo : Int} {n i : Nat} (h : i < n) : (rng lo n)[i]? = some (.int (lo + (i : Int))) := by
  unfold rng
  rw [List.getElem?_map, List.getElem?_range h]
  rfl
def dRng1 (t : DA) : DI := fun ρ μ R => t ρ μ fun ds μ1 => match ds with
  | [.int j] => -(2 ^ 62) ≤ j ∧ j < 2 ^ 62 ∧ R (rng 0 j.toNat) (fun _ => True) μ1
  | _ => False
theorem di_range1 {tg : Expr} (hm : X.mg "range" = none) (ha : PDA X [a] tA) (hg : Gl X "range" := by rfl) (hs : starEach [a] X.env = [(false, eval a X.env)] := by rfl) : PDI X tg (.Call (.Name "range" p) [a] [] pos) (dRng1 tA) := by
  obtain ⟨ea, pa, fa⟩ := ha.ex
  refine ⟨_, pi_range1 hg hm pa hs, @fun σ H ρ μ R Rd o t k => fa o t fun xs ds H1 μ1 g1 j1 h1 t1 => ?_⟩
  split at t1
  · rename_i n
    obtain ⟨v, rfl, hv⟩ := h1.one
    cases hv
    refine ⟨n, rfl, t1.1, t1.2.1, k _ _ _ _ _ g1 j1 ⟨fun i μ H hi g j s => ?_, fun μ H g j s => ?_⟩ t1.2.2⟩
    · rw [rng_len] at hi
      refine ⟨hi, fun x H' y => ?_⟩
      obtain ⟨rfl, rfl⟩ := y
      exact ⟨_, rng_get hi, Gr.refl, j, .int _⟩
    · rw [rng_len]
      exact Nat.le_refl _
  · exact t1.elim
def dFor (ti : DI) (g : DG) (tb : DS) : DS := fun D ρ μ => ti ρ μ fun xs src μ1 => ∃ Pv : Nat → Ro → Mu → Prop, Pv 0 ρ μ1 ∧ (∀ i ρ μ, Pv i ρ μ → src μ) ∧
  (∀ i x ρ μ, xs[i]? = some x → Pv i ρ μ → g x ρ μ fun ρ2 μ2 => tb { D with nx := Pv (i + 1), ct := Pv (i + 1), bk := D.nx } ρ2 μ2) ∧ ∀ ρ μ, Pv xs.length ρ μ → D.nx ρ μ
theorem ds_for {tg iter : Expr} {body : List Stmt} {ti : DI} {g : DG} {tb : DS} (hp : PassesOwn (model X.prog X.w) X.A X.env X.xe) (hc : X.calm = true) (hi : PDI X tg iter ti) (hg : PDG X tg g) (hb : PDSs X body tb)
    (hs : ∀ x, foldedSetIterable iter X.env x = pure x := by intro _; rfl) : PDS X (.For tg iter body [] pos) (dFor ti g tb) := by
  obtain ⟨wi, pi, fi⟩ := hi.ex
  obtain ⟨gg, pg, fg⟩ := hg.ex
  obtain ⟨bb, pb, fb⟩ := hb.ex
  refine ⟨_, ps_for hp hc pi pg pb hs, @fun σ H ρ μ D Dd o t k => fi o t fun It xs src H1 μ1 g1 j1 I t1 => ?_⟩
  obtain ⟨Pv, p0, ps, pt, pe⟩ := t1
  have o1 := o.grow g1 j1
  refine ⟨fun i m σ H => m = xs.length - i ∧ i ≤ xs.length ∧ ∃ ρ μ, Gr μ1 H1 μ H ∧ Okd X.K μ H σ ρ ∧ Pv i ρ μ, ⟨xs.length, by simp, Nat.zero_le _, ρ, μ1, Gr.refl, o1, p0⟩, ?_⟩
  rintro i m σ2 H2 ⟨rfl, hi, ρ2, μ2, gr2, o2, p2⟩
  by_cases hl : i < xs.length
  · obtain ⟨go, yl⟩ := I.step i μ2 H2 hl gr2 o2.j (ps _ _ _ p2)
    refine .inr ⟨go, fun σ' H' => i + 1 ≤ xs.length ∧ ∃ ρ μ, Gr μ1 H1 μ H' ∧ Okd X.K μ H' σ' ρ ∧ Pv (i + 1) ρ μ, fun σ' H' ⟨a1, a2⟩ => ⟨xs.length - (i + 1), by omega, rfl, a1, a2⟩, fun x H' y => ?_⟩
    obtain ⟨d, ed, g3, j3, h3⟩ := yl x H' y
    have o3 := o2.grow g3 j3
    refine fg o3 h3 (pt i d ρ2 μ2 ed p2) fun σ4 H4 ρ4 μ4 g4 o4 q4 => ?_
    have gall : Gr μ1 H1 μ4 H4 := (gr2.trans g3).trans g4
    refine fb o4 q4 ⟨?_, (k.rt.after g1).after gall, (k.nx.after g1).after gall, ?_⟩
    · exact fun σ5 H5 ρ5 μ5 g5 o5 q5 => ⟨hl, ρ5, μ5, gall.trans g5, o5, q5⟩
    · exact fun σ5 H5 ρ5 μ5 g5 o5 q5 => ⟨hl, ρ5, μ5, gall.trans g5, o5, q5⟩
  · have e : i = xs.length := by omega
    subst e
    exact .inl ⟨I.fin μ2 H2 gr2 o2.j (ps _ _ _ p2), k.nx _ _ _ _ (g1.trans gr2) o2 (pe _ _ p2)⟩
end

/-! ### a def by its body -/
def startD (N : List Str) (ds : List D) : Ro := ds.map some ++ List.replicate (N.length - ds.length) none
theorem start_ok {K : PySem.W.Frag} {μ : Mu} {H : Hp} {N : List Str} {vs : List V} {ds : List D} (j : J K μ H) (l : DaL K μ H vs ds) : Okd K μ H (start N vs) (startD N ds) := by
  have n := l.length
  refine ⟨j, by unfold L2.start startD; simp [n], fun i d h => ?_⟩
  unfold startD at h
  unfold L2.start
  by_cases hi : i < ds.length
  · rw [List.getElem?_append_left (by simpa using hi), List.getElem?_map] at h
    obtain ⟨d', e, e'⟩ := Option.map_eq_some_iff.mp h
    cases e'
    obtain ⟨v, ev, hv⟩ := l.get e
    refine ⟨v, ?_, hv⟩
    rw [List.getElem?_append_left (by simpa [n] using hi), List.getElem?_map, ev]
    rfl
  · rw [List.getElem?_append_right (by simpa using hi), List.getElem?_replicate] at h
    split at h <;> cases h
section
variable {P : Program} {w : World} {K : PySem.W.Frag} {mg : Str → Option Value} {base : Heap} {k : Nat} {f : Addr} {fd : FuncData} {ps N : List Str} {spd : SpD} {x qual : Str} {st : Stmt}
theorem okD (F : Fun K x qual st f fd) (S : FnScope N ps (defScope st)) (ar : ∀ {ds μ Q}, spd ds μ Q → ds.length = ps.length)
    (body : ∀ (X : Cx), (∃ cdv A outer s H E, X = (cxOf CX0 P w K mg base N qual (defScope st) f cdv A outer s H E).nox) → X.A.guards = some [] → Room k X.A → ∃ t, PDSs X (defBody st) t ∧ ∀ {ds μ Q}, spd ds μ Q → t { nx := fun _ μ => Q .non μ, rt := Q } (startD N ds) μ) :
    FnG P w K mg base CX0 (k + 1) f fd ps (up K spd) := by
  refine okG F S (@fun vs H Q E h => ?_) (@fun cdv A outer s H vs Q E hg hr h => ?_)
  · obtain ⟨ds, μ, Qd, j, l, q, _⟩ := h
    exact l.length.trans (ar q)
  · obtain ⟨ds, μ, Qd, j, l, q, kk⟩ := h
    obtain ⟨t, ht, hq⟩ := body _ ⟨cdv, A, outer, s, H, E, rfl⟩ hg hr
    obtain ⟨ts, p, fn⟩ := ht.ex
    refine ⟨ts, p.nox, fn (start_ok j l) (hq q) ⟨fun σ' H' ρ' μ' g' o' q' => kk _ _ _ _ g' o'.j .non q', kk, fun _ _ _ _ _ _ z => z.elim, fun _ _ _ _ _ _ z => z.elim⟩⟩
end
end Dl

/-! rows that turn readings into plain sentences -/
namespace Dl
open PySem PySem.Spec PyProof.Rows L2
section
variable {μ : Mu} {Q : DQ} {x y : D} {xs ys : List D} {i j : Int} {a b : Str} {p q : Bool}
theorem vw_lst : vw μ (.lst xs) = .lst xs := rfl
theorem vw_sq : vw μ (.sq xs) = .sq xs := rfl
theorem vw_tup : vw μ (.tup xs) = .tup xs := rfl
theorem vw_str : vw μ (.str a) = .str a := rfl
theorem vw_int : vw μ (.int i) = .int i := rfl
theorem vw_bl : vw μ (.bl p) = .bl p := rfl
theorem vw_non : vw μ .non = .non := rfl
theorem vw_ref {c : Addr} (h : μ c = some (.lst xs)) : vw μ (.ref c) = .lst xs := by simp only [vw, h]
theorem dp_int : (PyData.int i).depth = 0 := by simp only [PyData.depth]
theorem dp_str : (PyData.str a).depth = 0 := by simp only [PyData.depth]
theorem dp_bool : (PyData.bool p).depth = 0 := by simp only [PyData.depth]
theorem dp_none : PyData.none.depth = 0 := by simp only [PyData.depth]
/-! == -/
theorem gEq_int : gEq (.int i) (.int j) μ Q = Q (.bl (decide (i = j))) μ := by
  unfold gEq gD CEq
  simp only [vw_int, pur, py, PyData.plain, dp_int, PyData.eqv, true_and, Nat.zero_le]
  first | rfl | (rw [Bool.beq_eq_decide_eq])
theorem gNe_int : gNe (.int i) (.int j) μ Q = Q (.bl (!decide (i = j))) μ := by
  unfold gNe gD CEq
  simp only [vw_int, pur, py, PyData.plain, dp_int, PyData.eqv, true_and, Nat.zero_le]
  first | rfl | (rw [Bool.beq_eq_decide_eq])
theorem gEq_bl : gEq (.bl p) (.bl q) μ Q = Q (.bl (decide (p = q))) μ := by
  unfold gEq gD CEq
  simp only [vw_bl, pur, py, PyData.plain, dp_bool, PyData.eqv, true_and, Nat.zero_le]
  first | rfl | (rw [Bool.beq_eq_decide_eq])
theorem gEq_str : gEq (.str a) (.str b) μ Q = Q (.bl (decide (a = b))) μ := by
  unfold gEq gD CEq
  simp only [vw_str, pur, py, PyData.plain, dp_str, PyData.eqv, true_and, Nat.zero_le]
  have : (a == b) = decide (a = b) := by rw [Bool.eq_iff_iff]; simp
  first | rfl | rw [this]
theorem gNe_str : gNe (.str a) (.str b) μ Q = Q (.bl (!decide (a = b))) μ := by
  unfold gNe gD CEq
  simp only [vw_str, pur, py, PyData.plain, dp_str, PyData.eqv, true_and, Nat.zero_le]
  have : (a == b) = decide (a = b) := by rw [Bool.eq_iff_iff]; simp
  first | rfl | rw [this]
/-! order -/
theorem gLt_int : gLt (.int i) (.int j) μ Q = Q (.bl (decide (i < j))) μ := by
  unfold gLt gD CLt
  simp only [vw_int, pur, py, PySem.W.alike, dp_int, PySem.W.dataLt_int, true_and, Nat.zero_le, ne_eq, reduceCtorEq, not_false_eq_true]
theorem gGt_int : gGt (.int i) (.int j) μ Q = Q (.bl (decide (j < i))) μ := by
  unfold gGt gD CLt
  simp only [vw_int, pur, py, PySem.W.alike, dp_int, PySem.W.dataLt_int, true_and, Nat.zero_le, ne_eq, reduceCtorEq, not_false_eq_true]
theorem gLe_int : gLe (.int i) (.int j) μ Q = Q (.bl (decide (i ≤ j))) μ := by
  unfold gLe gD CLt
  simp only [vw_int, pur, py, PySem.W.alike, dp_int, PySem.W.dataLt_int, true_and, Nat.zero_le, ne_eq, reduceCtorEq, not_false_eq_true, PySem.W.not_lt_int]
theorem gGe_int : gGe (.int i) (.int j) μ Q = Q (.bl (decide (j ≤ i))) μ := by
  unfold gGe gD CLt
  simp only [vw_int, pur, py, PySem.W.alike, dp_int, PySem.W.dataLt_int, true_and, Nat.zero_le, ne_eq, reduceCtorEq, not_false_eq_true, PySem.W.not_lt_int]
/-! numbers -/
theorem gAdd_int : gAdd (.int i) (.int j) μ Q = Q (.int (i + j)) μ := rfl
theorem gSub_int : gSub (.int i) (.int j) μ Q = Q (.int (i - j)) μ := rfl
theorem gMul_int : gMul (.int i) (.int j) μ Q = (CMul i j ∧ Q (.int (i * j)) μ) := rfl
theorem gMod_int : gMod (.int i) (.int j) μ Q = (0 < j ∧ Q (.int (i % j)) μ) := rfl
theorem gDiv_int : gDiv (.int i) (.int j) μ Q = (CDiv i j ∧ Q (.int (i / j)) μ) := rfl
theorem gPow_int : gPow (.int i) (.int j) μ Q = (CPow i j ∧ Q (.int (i ^ j.toNat)) μ) := rfl
theorem gNeg_int : gNeg (.int i) μ Q = Q (.int (-i)) μ := rfl
theorem gNot_bl : gNot (.bl p) μ Q = Q (.bl (!p)) μ := rfl
theorem gIs_bl : gIs (.bl p) (.bl q) μ Q = Q (.bl (decide (p = q))) μ := rfl
/-! items -/
theorem gIx_t {n : Nat} {d : D} (h : xs[n]? = some d) : gIx (.tup xs) (.int (n : Int)) μ Q = Q d μ := by
  unfold gIx
  simp only [vw_tup, atI_nat h]
theorem gIx_l {n : Nat} {d : D} (h : xs[n]? = some d) : gIx (.lst xs) (.int (n : Int)) μ Q = Q d μ := by
  unfold gIx
  simp only [vw_lst, atI_nat h]
theorem gIx_r {n : Nat} {d : D} {c : Addr} (hc : μ c = some (.lst xs)) (h : xs[n]? = some d) : gIx (.ref c) (.int (n : Int)) μ Q = Q d μ := by
  unfold gIx
  simp only [vw_ref hc, atI_nat h]
theorem gIx_t0 {x0 : D} {r : List D} : gIx (.tup (x0 :: r)) (.int 0) μ Q = Q x0 μ := gIx_t (n := 0) rfl
theorem gIx_t1 {x0 x1 : D} {r : List D} : gIx (.tup (x0 :: x1 :: r)) (.int 1) μ Q = Q x1 μ := gIx_t (n := 1) rfl
theorem gIx_t2 {x0 x1 x2 : D} {r : List D} : gIx (.tup (x0 :: x1 :: x2 :: r)) (.int 2) μ Q = Q x2 μ := gIx_t (n := 2) rfl
theorem gIx_t3 {x0 x1 x2 x3 : D} {r : List D} : gIx (.tup (x0 :: x1 :: x2 :: x3 :: r)) (.int 3) μ Q = Q x3 μ := gIx_t (n := 3) rfl
theorem gLen_l : gLen [.lst xs] μ Q = Q (.int xs.length) μ := rfl
theorem gLen_t : gLen [.tup xs] μ Q = Q (.int xs.length) μ := rfl
theorem gSl_l {l u : Option Int} : gSl (.lst xs) l u μ Q = Q (.lst (cutD xs l u)) μ := rfl
theorem gSl_sq {l u : Option Int} : gSl (.sq xs) l u μ Q = Q (.lst (cutD xs l u)) μ := rfl
theorem gSl_t {l u : Option Int} : gSl (.tup xs) l u μ Q = Q (.tup (cutD xs l u)) μ := rfl
theorem gRev_l : gRev (.lst xs) μ Q = Q (.lst xs.reverse) μ := rfl
theorem gRev_t : gRev (.tup xs) μ Q = Q (.tup xs.reverse) μ := rfl
theorem gRevM_l : gRevM (.lst xs) μ Q = (∀ p, μ p = none → Q (.ref p) (mup μ p (.lst xs.reverse))) := rfl
theorem gList_l : gList [.lst xs] μ Q = Q (.lst xs) μ := rfl
theorem gList_sq : gList [.sq xs] μ Q = Q (.lst xs) μ := rfl
theorem gList_t : gList [.tup xs] μ Q = Q (.lst xs) μ := rfl
theorem gMax2_int : gMax2 [.int i, .int j] μ Q = Q (.int (if j > i then j else i)) μ := rfl
theorem gRepr_l : gRepr [.lst xs] μ Q = (Shows (.lst xs) ∧ Q (.str (py (.lst xs)).shown) μ) := by unfold gRepr rowOf; simp only [vw_lst, Option.isSome_some, true_and]
theorem gRepr_t : gRepr [.tup xs] μ Q = (Shows (.tup xs) ∧ Q (.str (py (.tup xs)).shown) μ) := by unfold gRepr rowOf; simp only [vw_tup, Option.isSome_some, true_and]
theorem gPop_ref {c : Addr} {d : D} (h : μ c = some (.lst xs)) (hd : xs[xs.length - 1]? = some d) : gPop (.ref c) μ Q = Q d (mup μ c (.lst xs.dropLast)) := by unfold gPop; simp only [h, hd]
theorem gAppend_ref {c : Addr} {d : D} (h : μ c = some (.lst xs)) : gAppend (.ref c) [d] μ Q = (xs.length < sizeLine ∧ Q .non (mup μ c (.lst (xs ++ [d])))) := by unfold gAppend; simp only [h]
theorem gIx_r0 {c : Addr} {x0 : D} {r : List D} (h : μ c = some (.lst (x0 :: r))) : gIx (.ref c) (.int 0) μ Q = Q x0 μ := gIx_r (n := 0) h rfl
theorem gIx_r1 {c : Addr} {x0 x1 : D} {r : List D} (h : μ c = some (.lst (x0 :: x1 :: r))) : gIx (.ref c) (.int 1) μ Q = Q x1 μ := gIx_r (n := 1) h rfl
theorem gIx_r2 {c : Addr} {x0 x1 x2 : D} {r : List D} (h : μ c = some (.lst (x0 :: x1 :: x2 :: r))) : gIx (.ref c) (.int 2) μ Q = Q x2 μ := gIx_r (n := 2) h rfl
theorem gSet_2 {c : Addr} {x0 x1 x2 v : D} {R : Mu → Prop} (h : μ c = some (.lst [x0, x1, x2])) : gSetL (.ref c) (.int 2) v μ R = R (mup μ c (.lst [x0, x1, v])) := by unfold gSetL; simp only [h]; rfl
/-- xs != [] of a list of ints that changes -/
theorem gNe_nil {c : Addr} {ns : List Int} (h : μ c = some (.lst (ns.map D.int))) : gNe (.ref c) (.lst []) μ Q = Q (.bl (!ns.isEmpty)) μ := by
  unfold gNe gD CEq
  have e1 : ∀ ns : List Int, purL (ns.map D.int) = true := fun ns => by
    induction ns with
    | nil => rfl
    | cons n ns ih => simp only [List.map, purL, pur, ih, Bool.and_self]
  have e2 : PyData.eqv (.list (pyL (ns.map D.int))) (.list []) = ns.isEmpty := by
    cases ns with
    | nil => simp [pyL, PyData.eqv, PyData.eqvAll]
    | cons n ns => simp [pyL, PyData.eqv, PyData.eqvAll]
  have e3 := pyL_plain (ns.map D.int)
  simp only [vw_ref h, vw_lst, pur, purL, py, pyL, PyData.plain, PyData.plainAll, PyData.depth, PyData.depthAll, e1, e2, e3, true_and]
  simp
theorem sz {n : Nat} (h : n ≤ 10000) : n ≤ sizeLine := Nat.le_trans h (by decide)
end
/-- where a law begins -/
theorem up_law {K : PySem.W.Frag} {H : Hp} {a : Addr} {ns : List Int} {spd : SpD} {E : XK} (hS : SqL K H a (ns.map V.int)) (h : spd [.sq (ns.map .int)] (fun _ => none) (fun d _ => d = .bl true)) : up K spd [.ref a] H (fun v _ => v = .bl true) E := by
  refine ⟨[.sq (ns.map .int)], fun _ => none, fun d _ => d = .bl true, (fun _ _ e => nomatch e), .cons (.sq ?_ (DaL.ints ns)) .nil, h, ?_⟩
  · rcases hS with r | r
    · exact .inl ⟨rfl, r⟩
    · exact .inr r
  · intro v d H' μ' _ _ hv e
    subst e
    cases hv
    rfl
/-! ### the deck of a law: [cells, mixed, turns] -/
def Deck (μ : Mu) (d c : Addr) (n : Nat) : Prop := ∃ (cells : List Int) (m t : Int), μ d = some (.lst [.ref c, .int m, .int t]) ∧ μ c = some (.lst (cells.map .int)) ∧ d ≠ c ∧ cells.length ≤ 63 ∧ 0 ≤ m ∧ m < 2147483648 ∧ 0 ≤ t ∧ t ≤ n
/-- all but the deck is as it was -/
def But (d c : Addr) (μ μ' : Mu) : Prop := ∀ b, b ≠ d → b ≠ c → μ' b = μ b
theorem But.refl {d c : Addr} {μ : Mu} : But d c μ μ := fun _ _ _ => rfl
theorem But.trans {d c : Addr} {μ μ1 μ2 : Mu} (a : But d c μ μ1) (b : But d c μ1 μ2) : But d c μ μ2 := fun x h1 h2 => (b x h1 h2).trans (a x h1 h2)
def sp_deck : SpD := fun ds μ Q => ∃ ns : List Int, ds = [.sq (ns.map .int)] ∧ ns.length ≤ 63 ∧ ∀ μ' d c, μ d = none → μ c = none → Deck μ' d c 0 → But d c μ μ' → Q (.ref d) μ'
def sp_draw : SpD := fun ds μ Q => ∃ (d c : Addr) (many : Int) (n : Nat), ds = [.ref d, .int many] ∧ 0 < many ∧ many < 1073741824 ∧ Deck μ d c n ∧ n < 1000000000 ∧
  ∀ μ' i, 0 ≤ i → i < many → Deck μ' d c (n + 1) → But d c μ μ' → Q (.int i) μ'
/-- one of a list -/
def sp_pick : SpD := fun ds μ Q => ∃ (d c : Addr) (xs : List D) (n : Nat), ds = [.ref d, .lst xs] ∧ 0 < xs.length ∧ xs.length < 1073741824 ∧ Deck μ d c n ∧ n < 1000000000 ∧
  ∀ μ' x, x ∈ xs → Deck μ' d c (n + 1) → But d c μ μ' → Q x μ'
theorem Deck.more {μ : Mu} {d c : Addr} {n m : Nat} (h : Deck μ d c n) (l : n ≤ m) : Deck μ d c m := by
  obtain ⟨cells, x, t, a1, a2, a3, a4, a5, a6, a7, a8⟩ := h
  exact ⟨cells, x, t, a1, a2, a3, a4, a5, a6, a7, by omega⟩
end Dl

/-! Own classes: instances as data (D.obj) or as things that change (Ob.ins); calls with defaults and keywords. -/
namespace Dl
open PySem PySem.Spec PyProof.Rows L2

/-! ### straight from and to the walk -/
section
variable {X : Cx} {e : Expr} {t : DE} {pins : List (Addr × Obj)} {s : Shared} {σ : L2.St} {H : Hp} {ρ : Ro} {μ : Mu} {Q : VK} {Qd : DQ}
def KD (K : PySem.W.Frag) (μ : Mu) (H : Hp) (Qd : DQ) : VK := fun v H' => ∃ d μ', Gr μ H μ' H' ∧ J K μ' H' ∧ Da K μ' H' v d ∧ Qd d μ'
def KDL (K : PySem.W.Frag) (μ : Mu) (H : Hp) (Qd : List D → Mu → Prop) : List V → Hp → Prop := fun v H' => ∃ d μ', Gr μ H μ' H' ∧ J K μ' H' ∧ DaL K μ' H' v d ∧ Qd d μ'
theorem ktKD {K : PySem.W.Frag} : Kt K μ H (KD K μ H Qd) Qd := fun v d H' μ' g j h q => ⟨d, μ', g, j, h, q⟩
theorem ktKDL {K : PySem.W.Frag} {Qd : List D → Mu → Prop} : KtL K μ H (KDL K μ H Qd) Qd := fun v d H' μ' g j h q => ⟨d, μ', g, j, h, q⟩
theorem PD.of (h : ∀ pins s σ H ρ μ Q Qd, Inv X pins σ H s → Okd X.K μ H σ ρ → t ρ μ Qd → Kt X.K μ H Q Qd → wpAny (model X.prog X.w) X.A (eval e X.env) (EP X pins σ Q) X.xe s) : PD X e t :=
  ⟨fun σ H Q => ∃ ρ μ Qd, Okd X.K μ H σ ρ ∧ t ρ μ Qd ∧ Kt X.K μ H Q Qd, ⟨fun pins s σ H Q I ⟨ρ, μ, Qd, o, q, k⟩ => h pins s σ H ρ μ Q Qd I o q k⟩, fun o q k => ⟨_, _, _, o, q, k⟩⟩
theorem PD.run (h : PD X e t) (I : Inv X pins σ H s) (o : Okd X.K μ H σ ρ) (q : t ρ μ Qd) : wpAny (model X.prog X.w) X.A (eval e X.env) (EP X pins σ (KD X.K μ H Qd)) X.xe s := by
  obtain ⟨te, p, f⟩ := h.ex
  exact p.run pins s σ H _ I (f o q ktKD)
/-- an operation on values by what it does on data -/
def rG (K : PySem.W.Frag) (g : G2) : R2 := fun x y H Q => ∃ dx dy μ Qd, J K μ H ∧ Da K μ H x dx ∧ Da K μ H y dy ∧ g dx dy μ Qd ∧ Kt K μ H Q Qd
theorem lf_rG {K : PySem.W.Frag} {g : G2} : Lf2 K (rG K g) g := fun j hx hy q k => ⟨_, _, _, _, j, hx, hy, q, k⟩
def rG1 (K : PySem.W.Frag) (g : D → Mu → DQ → Prop) : V → Hp → VK → Prop := fun x H Q => ∃ dx μ Qd, J K μ H ∧ Da K μ H x dx ∧ g dx μ Qd ∧ Kt K μ H Q Qd
theorem lf_rG1 {K : PySem.W.Frag} {g : D → Mu → DQ → Prop} : Lf1 K (rG1 K g) g := fun j hx q k => ⟨_, _, _, j, hx, q, k⟩
def rGL (K : PySem.W.Frag) (g : List D → Mu → DQ → Prop) : List V → Hp → VK → Prop := fun xs H Q => ∃ ds μ Qd, J K μ H ∧ DaL K μ H xs ds ∧ g ds μ Qd ∧ Kt K μ H Q Qd
theorem lf_rGL {K : PySem.W.Frag} {g : List D → Mu → DQ → Prop} : LfL K (rGL K g) g := fun j hx q k => ⟨_, _, _, j, hx, q, k⟩
end

/-! ### how a call binds -/
def nth {α : Type} : List α → Nat → Option α
  | [], _ => none
  | x :: _, 0 => some x
  | _ :: r, n + 1 => nth r n
def pick {α : Type} : List Nat → List α → List α
  | [], _ => []
  | i :: is, xs => match nth xs i with
    | some x => x :: pick is xs
    | none => pick is xs
theorem Vals.nth : ∀ {vs : List V} {us : List Value}, Vals vs us → ∀ i, (∃ v u, Dl.nth vs i = some v ∧ Dl.nth us i = some u ∧ RelV v u) ∨ (Dl.nth vs i = none ∧ Dl.nth us i = none)
  | _, _, .nil, _ => .inr ⟨rfl, rfl⟩
  | _, _, .cons h _, 0 => .inl ⟨_, _, rfl, rfl, h⟩
  | _, _, .cons _ r, i + 1 => Vals.nth r i
theorem Vals.pick {vs : List V} {us : List Value} (h : Vals vs us) : ∀ ix : List Nat, Vals (Dl.pick ix vs) (Dl.pick ix us)
  | [] => .nil
  | i :: is => by
    unfold Dl.pick
    rcases Vals.nth h i with ⟨v, u, e1, e2, r⟩ | ⟨e1, e2⟩
    · rw [e1, e2]
      exact .cons r (Vals.pick h is)
    · rw [e1, e2]
      exact Vals.pick h is
section
variable {K : PySem.W.Frag} {μ : Mu} {H : Hp}
theorem DaL.nth : ∀ {vs : List V} {ds : List D}, DaL K μ H vs ds → ∀ i, (∃ v d, Dl.nth vs i = some v ∧ Dl.nth ds i = some d ∧ Da K μ H v d) ∨ (Dl.nth vs i = none ∧ Dl.nth ds i = none)
  | _, _, .nil, _ => .inr ⟨rfl, rfl⟩
  | _, _, .cons h _, 0 => .inl ⟨_, _, rfl, rfl, h⟩
  | _, _, .cons _ r, i + 1 => DaL.nth r i
theorem DaL.pick {vs : List V} {ds : List D} (h : DaL K μ H vs ds) : ∀ ix : List Nat, DaL K μ H (Dl.pick ix vs) (Dl.pick ix ds)
  | [] => .nil
  | i :: is => by
    unfold Dl.pick
    rcases DaL.nth h i with ⟨v, u, e1, e2, r⟩ | ⟨e1, e2⟩
    · rw [e1, e2]
      exact .cons r (DaL.pick h is)
    · rw [e1, e2]
      exact DaL.pick h is
end
/-- n written values, keywords ks; dd the defaults as data, ix where each parameter's value stands among them all -/
structure Bnd (K : PySem.W.Frag) (fd : FuncData) (ps : List Str) (n : Nat) (ks : List Str) (dd : List D) (ix : List Nat) : Prop where
  to : ∀ (s : Shared) (us ws : List Value) (vs zs : List V), K.In s.heap → us.length = n → ws.length = ks.length → Vals vs us → Vals zs ws →
    ∃ vs' us', Vals vs' us' ∧ BindsTo s fd ⟨us, ks.zip ws⟩ (ps.zip us') ∧ ∀ {μ : Mu} {H : Hp} {ds : List D}, DaL K μ H (vs ++ zs) ds → DaL K μ H vs' (pick ix (ds ++ dd))
section
variable {K : PySem.W.Frag} {x qual : Str} {st : Stmt} {f : Addr} {fd : FuncData} {ps ks : List Str} {n : Nat} {ix : List Nat}
/-- no defaults -/
theorem Fun.bnd (F : Fun K x qual st f fd) (n : Nat) (ks : List Str) (ix : List Nat)
    (h : ∀ (kV doc pm : Value) (an : Option Addr) (cdv ct : Value) (us ws : List Value), us.length = n → ws.length = ks.length →
      bindArgs (PySem.W.fnOf x qual (defArgs st) (defBody st) (defScope st) .none kV doc pm an cdv ct) ⟨us, ks.zip ws⟩ = pure (ps.zip (pick ix (us ++ ws)))) : Bnd K fd ps n ks [] ix := by
  obtain ⟨oc, od, kV, doc, pm, an, cdv, ct, osl, rfl, lk, hcd⟩ := F.ex
  refine ⟨fun s us ws vs zs X hn hk r1 r2 => ⟨pick ix (vs ++ zs), pick ix (us ++ ws), Vals.pick (r1.append r2) ix, .of_eq (h kV doc pm an cdv ct us ws hn hk), fun l => ?_⟩⟩
  rw [List.append_nil]
  exact l.pick ix
/-- constants, as values and as data -/
inductive Cst (K : PySem.W.Frag) : List V → List D → Prop
  | nil : Cst K [] []
  | cons {v : V} {d : D} {vs : List V} {ds : List D} : (∀ μ H, Da K μ H v d) → Cst K vs ds → Cst K (v :: vs) (d :: ds)
theorem Cst.da {μ : Mu} {H : Hp} : ∀ {vs : List V} {ds : List D}, Cst K vs ds → DaL K μ H vs ds
  | _, _, .nil => .nil
  | _, _, .cons h l => .cons (h μ H) l.da
theorem Cst.append : ∀ {vs ws : List V} {ds es : List D}, Cst K vs ds → Cst K ws es → Cst K (vs ++ ws) (ds ++ es)
  | _, _, _, _, .nil, s => s
  | _, _, _, _, .cons h l, s => .cons h (l.append s)
variable {params : Arguments} {body : List Stmt} {scope : Scope} {dvs : List V} {dd : List D} {kws : List (Str × V)}
/-- defaults, no keyword-only ones -/
theorem FunD.bnd1 (F : FunD K x qual params body scope dvs kws f fd) (n : Nat) (ks : List Str) (ix : List Nat) (hd : dvs ≠ []) (hc : Cst K dvs dd)
    (h : ∀ (T : Addr) (kV doc pm : Value) (an : Option Addr) (cdv ct : Value) (us ws its : List Value), us.length = n → ws.length = ks.length → its.length = dvs.length →
      ∃ k, bindArgs (PySem.W.fnOf x qual params body scope (.ref T) kV doc pm an cdv ct) ⟨us, ks.zip ws⟩ = seqItems? (.ref T) >>= k ∧ k (some its.toArray) = pure (ps.zip (pick ix (us ++ ws ++ its)))) : Bnd K fd ps n ks dd ix := by
  obtain ⟨oc, od, dV, kV, doc, pm, an, cdv, ct, osl, rfl, lk, hcd, hD, hK⟩ := F.ex
  rcases hD with ⟨e, _⟩ | ⟨_, T, o, its, m, rfl, lT, oT, rT⟩
  · exact absurd e hd
  · refine ⟨fun s us ws vs zs X hn hk r1 r2 => ⟨pick ix (vs ++ zs ++ dvs), pick ix (us ++ ws ++ its), Vals.pick ((r1.append r2).append rT) ix, ?_, fun l => (l.append hc.da).pick ix⟩⟩
    obtain ⟨k, e1, e2⟩ := h T kV doc pm an cdv ct us ws its hn hk rT.length.symm
    refine BindsTo.of_looks fun M => ?_
    rw [e1]
    exact looks_items X lT oT (.of_pure e2)
/-- defaults and keyword-only ones; ms: those of the latter that lack -/
theorem FunD.bnd2 (F : FunD K x qual params body scope dvs kws f fd) (n : Nat) (ks : List Str) (ix : List Nat) (ms : List (Str × V)) {dm : List D} (hd : dvs ≠ []) (hk : kws ≠ []) (hms : ∀ q ∈ ms, q ∈ kws) (hc : Cst K dvs dd) (hm : Cst K (ms.map (·.2)) dm)
    (h : ∀ (T D : Addr) (doc pm : Value) (an : Option Addr) (cdv ct : Value) (us ws its mv : List Value), us.length = n → ws.length = ks.length → its.length = dvs.length → mv.length = ms.length →
      ∃ k, bindArgs (PySem.W.fnOf x qual params body scope (.ref T) (.ref D) doc pm an cdv ct) ⟨us, ks.zip ws⟩ = seqItems? (.ref T) >>= k ∧ KwChain D ((ms.map (·.1)).zip mv) (k (some its.toArray)) (ps.zip (pick ix (us ++ ws ++ (its ++ mv))))) : Bnd K fd ps n ks (dd ++ dm) ix := by
  obtain ⟨oc, od, dV, kV, doc, pm, an, cdv, ct, osl, rfl, lk, hcd, hD, hK⟩ := F.ex
  rcases hD with ⟨e, _⟩ | ⟨_, T, o, its, m, rfl, lT, oT, rT⟩
  · exact absurd e hd
  · rcases hK with e | ⟨D, rfl, hq⟩
    · exact absurd e hk
    · obtain ⟨mv, hl, rk, hks⟩ := kwd_vals (ms := ms) fun q hm => hq q (hms q hm)
      refine ⟨fun s us ws vs zs X hn hk r1 r2 => ⟨pick ix (vs ++ zs ++ (dvs ++ ms.map (·.2))), pick ix (us ++ ws ++ (its ++ mv)), Vals.pick ((r1.append r2).append (rT.append rk)) ix, ?_, fun l => (l.append (hc.append hm).da).pick ix⟩⟩
      obtain ⟨k, e1, e2⟩ := h T D doc pm an cdv ct us ws its mv hn hk rT.length.symm hl
      refine BindsTo.of_looks fun M => ?_
      rw [e1]
      exact looks_items X lT oT (KwChain.looks X hks e2)
/-- keyword-only defaults alone -/
theorem FunD.bnd3 (F : FunD K x qual params body scope [] kws f fd) (n : Nat) (ks : List Str) (ix : List Nat) (ms : List (Str × V)) {dm : List D} (hk : kws ≠ []) (hms : ∀ q ∈ ms, q ∈ kws) (hm : Cst K (ms.map (·.2)) dm)
    (h : ∀ (D : Addr) (doc pm : Value) (an : Option Addr) (cdv ct : Value) (us ws mv : List Value), us.length = n → ws.length = ks.length → mv.length = ms.length →
      KwChain D ((ms.map (·.1)).zip mv) (bindArgs (PySem.W.fnOf x qual params body scope .none (.ref D) doc pm an cdv ct) ⟨us, ks.zip ws⟩) (ps.zip (pick ix (us ++ ws ++ mv)))) : Bnd K fd ps n ks dm ix := by
  obtain ⟨oc, od, dV, kV, doc, pm, an, cdv, ct, osl, rfl, lk, hcd, hD, hK⟩ := F.ex
  rcases hD with ⟨_, rfl⟩ | ⟨e, _⟩
  · rcases hK with e | ⟨D, rfl, hq⟩
    · exact absurd e hk
    · obtain ⟨mv, hl, rk, hks⟩ := kwd_vals (ms := ms) fun q hm => hq q (hms q hm)
      refine ⟨fun s us ws vs zs X hn hk r1 r2 => ⟨pick ix (vs ++ zs ++ ms.map (·.2)), pick ix (us ++ ws ++ mv), Vals.pick ((r1.append r2).append rk) ix, ?_, fun l => (l.append hm.da).pick ix⟩⟩
      exact BindsTo.of_looks fun M => KwChain.looks X hks (h D doc pm an cdv ct us ws mv hn hk hl)
  · exact absurd rfl e
end

/-! ### the arguments of a call, whatever their form -/
structure PDC (X : Cx) (pos : Pos) (es : List Expr) (kws : List Keyword) (n : Nat) (ks : List Str) (t : DA) : Prop where
  go : ∀ {f : Value} {first : List Value} {pins : List (Addr × Obj)} {s : Shared} {σ : L2.St} {H : Hp} {ρ : Ro} {μ : Mu} {Qd : List D → Mu → Prop} {R : Value → Shared → Prop}, Inv X pins σ H s → PySem.W.keepIn X.K f = true → Okd X.K μ H σ ρ → t ρ μ Qd →
    (∀ us ws vs zs ds H2 μ2 s2, Inv X pins σ H2 s2 → Vals vs us → Vals zs ws → us.length = n → ws.length = ks.length → Gr μ H μ2 H2 → J X.K μ2 H2 → DaL X.K μ2 H2 (vs ++ zs) ds → Qd ds μ2 → wpAny (model X.prog X.w) X.A (call f (first ++ us) (ks.zip ws)) R X.xe s2) →
    wpAny (model X.prog X.w) X.A (callWith pos f first (backTo pos (starEach es X.env)) (backToKw pos (keywordEach kws X.env))) R X.xe s
section
variable {X : Cx} {pos : Pos} {e : Expr} {es : List Expr} {kw : Keyword} {kws : List Keyword} {tA tK : DA} {ks : List Str} {n : Nat}
def dBoth (tA tK : DA) : DA := fun ρ μ Q => tA ρ μ fun xs μ1 => tK ρ μ1 fun ys μ2 => Q (xs ++ ys) μ2
def dLen (n : Nat) (t : DA) : DA := fun ρ μ Q => t ρ μ fun xs μ1 => xs.length = n ∧ Q xs μ1
theorem pdc_0 : PDC X pos [] [] 0 [] dNil := ⟨fun I hk o q k => PySem.W.callWith_K0 I.kIn hk (k [] [] [] [] [] _ _ _ I .nil .nil rfl rfl Gr.refl o.j .nil q)⟩
theorem pdc_p (ha : PDA X (e :: es) tA) (he : starEach (e :: es) X.env = (false, eval e X.env) :: starEach es X.env := by rfl) (hpl : (backTo pos (starEach es X.env)).any (·.1) = false := by rfl) : PDC X pos (e :: es) [] n [] (dLen n tA) := by
  obtain ⟨ta, pa, fa⟩ := ha.ex
  refine ⟨@fun f first pins s σ H ρ μ Qd R I hk o q k => ?_⟩
  refine PySem.W.callWith_K (h₀ := X.base) I.ok.mod.kin hk (thn (pa.run pos pins s σ H _ I (fa o q ktKDL)) ?_) he hpl
  rintro us s1 ⟨vs, H1, I1, r, ds, μ1, g, j, l, hl, q1⟩
  exact ⟨I1.kIn, k us [] vs [] ds H1 μ1 s1 I1 r .nil (by rw [← r.length, l.length, hl]) rfl g j (by rw [List.append_nil]; exact l) q1⟩
theorem pdc_k (hkw : PDK X (kw :: kws) tK) (hall : (backToKw pos (keywordEach (kw :: kws) X.env)).all (·.1.isSome) = true := by rfl) (hks : (backToKw pos (keywordEach (kw :: kws) X.env)).filterMap (·.1) = ks := by rfl)
    (hpl : ((backTo pos (starEach [] X.env)).any (·.1) || (backToKw pos (keywordEach (kw :: kws) X.env)).any (·.1.isNone)) = false := by rfl) : PDC X pos [] (kw :: kws) 0 ks (dLen ks.length tK) := by
  obtain ⟨ta, pa, fa⟩ := hkw.ex
  refine ⟨@fun f first pins s σ H ρ μ Qd R I hk o q k => ?_⟩
  refine PySem.W.callWith_KW0 (h₀ := X.base) I.ok.mod.kin hk hall (thn (pa.run pos pins s σ H _ I (fa o q ktKDL)) ?_) hpl
  rintro ws s1 ⟨zs, H1, I1, r, ds, μ1, g, j, l, hl, q1⟩
  rw [hks]
  refine ⟨I1.kIn, ?_⟩
  have := k [] ws [] zs ds H1 μ1 s1 I1 .nil r rfl (by rw [← r.length, l.length, hl]) g j l q1
  simpa using this
theorem pdc_b (ha : PDA X (e :: es) tA) (hkw : PDK X (kw :: kws) tK) (hall : (backToKw pos (keywordEach (kw :: kws) X.env)).all (·.1.isSome) = true := by rfl) (hks : (backToKw pos (keywordEach (kw :: kws) X.env)).filterMap (·.1) = ks := by rfl)
    (he : starEach (e :: es) X.env = (false, eval e X.env) :: starEach es X.env := by rfl)
    (hpl : ((backTo pos (starEach (e :: es) X.env)).any (·.1) || (backToKw pos (keywordEach (kw :: kws) X.env)).any (·.1.isNone)) = false := by rfl) : PDC X pos (e :: es) (kw :: kws) n ks (dBoth (dLen n tA) (dLen ks.length tK)) := by
  obtain ⟨ta, pa, fa⟩ := ha.ex
  obtain ⟨tb, pb, fb⟩ := hkw.ex
  refine ⟨@fun f first pins s σ H ρ μ Qd R I hk o q k => ?_⟩
  refine PySem.W.callWith_KW (h₀ := X.base) I.ok.mod.kin hk hall (thn (pa.run pos pins s σ H _ I (fa o q ktKDL)) ?_) hpl he
  rintro us s1 ⟨vs, H1, I1, r, ds, μ1, g, j, l, hl, q1⟩
  refine thn (pb.run pos pins s1 σ H1 _ I1 (fb (o.grow g j) q1 ktKDL)) ?_
  rintro ws s2 ⟨zs, H2, I2, r2, es, μ2, g2, j2, l2, hl2, q2⟩
  rw [hks]
  exact ⟨I2.kIn, k us ws vs zs (ds ++ es) H2 μ2 s2 I2 r r2 (by rw [← r.length, l.length, hl]) (by rw [← r2.length, l2.length, hl2]) (g.trans g2) j2 ((l.grow g2).append l2) q2⟩
end

/-! ### running a def's code wherever it is called from -/
section
variable {X : Cx} {pins : List (Addr × Obj)} {σ : L2.St} {H : Hp} {s : Shared} {k : Nat} {f : Addr} {fd : FuncData} {ps : List Str} {spd : SpD} {A : Around} {E : Value → Shared → Prop} {R : Value → Shared → Prop} {us ws us' : List Value} {vs' : List V} {ks : List Str} {μ : Mu} {ds : List D} {Qd : DQ}
theorem run_at (F : FnG X.prog X.w X.K X.mg X.base CX0 k f fd ps (up X.K spd)) (hgu : A.guards = some []) (hr : Room k A) (I : Inv X pins σ H s) (e0 : Env0 X.prog X.w X.K X.mg X.base A X.stack s H) (hb : BindsTo s fd ⟨us, ks.zip ws⟩ (ps.zip us')) (hv : Vals vs' us')
    (j : J X.K μ H) (l : DaL X.K μ H vs' ds) (q : spd ds μ Qd) (h : ∀ u s', EP X pins σ (KD X.K μ H Qd) u s' → R u s') : wpAny (model X.prog X.w) A (call (.ref f) us (ks.zip ws)) R E s := by
  refine wpAny_call (codeAny_mono (F.go (E := E0) hgu hr e0 hb hv ⟨ds, μ, Qd, j, l, q, ktKD⟩) fun r s' hq => ?_)
  match r, hq with
  | .error e, hq => exact hq.elim
  | .ok (.ret u), hq => exact h u s' (I.after hq)
end
/-- a def with how its calls bind -/
def dCallB (spd : SpD) (dd : List D) (ix : List Nat) (t : DA) : DE := fun ρ μ Q => t ρ μ fun ds μ1 => spd (pick ix (ds ++ dd)) μ1 Q
section
variable {X : Cx} {pos p apos : Pos} {o : Expr} {es : List Expr} {kws : List Keyword} {tA : DA} {to : DE} {n k j : Nat} {ks ps : List Str} {dd : List D} {ix : List Nat} {spd : SpD} {x m : Str} {f C : Addr} {fd : FuncData}
theorem pd_callB (F : FnG X.prog X.w X.K X.mg X.base CX0 k f fd ps (up X.K spd)) (nm : X.mg x = some (.ref f)) (kp : PySem.W.keepIn X.K (.ref f) = true) (hb : Bnd X.K fd ps n ks dd ix) (hr : Room j X.A) (hgu : X.A.guards = some []) (ha : PDC X pos es kws n ks tA) (hk : k ≤ j := by decide) (hg : Gl X x := by rfl)
    (hdb : (x == ("__debug__" : Str)) = false := by decide) : PD X (.Call (.Name x p) es kws pos) (dCallB spd dd ix tA) := by
  refine .of fun pins s σ H ρ μ Q Qd I o q kk => ?_
  refine wpAny_Call_Name_kw (ld_glob I hg nm ?_ hdb)
  refine ha.go I kp o q fun us ws vs zs ds H2 μ2 s2 I2 r1 r2 h1 h2 g2 j2 l2 q2 => ?_
  obtain ⟨vs', us', rv, bt, dl⟩ := hb.to s2 us ws vs zs I2.kIn h1 h2 r1 r2
  refine run_at F hgu (hr.mono hk) I2 I2.env0 bt rv j2 (dl l2) q2 ?_
  rintro u s' ⟨v, H3, I3, ru, d, μ3, g3, j3, h3, q3⟩
  exact ⟨v, H3, I3, ru, kk _ _ _ _ (g2.trans g3) j3 h3 q3⟩
end
end Dl

namespace Dl
open PySem PySem.Spec PyProof.Rows L2
/-! ### instances -/
/-- the class and the fields of an instance, whether it is data or changes -/
def oin (μ : Mu) : D → Option (Addr × List (Str × D))
  | .obj C fs => some (C, fs)
  | .ref a => match μ a with
    | some (.ins C fs) => some (C, fs)
    | _ => none
  | _ => none
section
variable {K : PySem.W.Frag} {μ : Mu} {H : Hp} {v : V} {d : D} {C : Addr} {fs : List (Str × D)} {fv : List (Str × V)}
theorem Da.ins (j : J K μ H) (h : Da K μ H v d) (e : oin μ d = some (C, fs)) : ∃ a dx fv, v = .ref a ∧ H a = some (.ins C dx fv) ∧ DaF K μ H fv fs := by
  cases d with
  | obj C' fs' =>
    cases h with | obj n q l =>
    cases e
    exact ⟨_, _, _, rfl, q, l⟩
  | ref a =>
    cases h
    unfold oin at e
    simp only at e
    split at e
    · rename_i q
      cases e
      obtain ⟨dx, fv, h1, h2⟩ := j _ _ q
      exact ⟨_, _, _, rfl, h1, h2⟩
    · cases e
  | _ => cases e
theorem DaF.look {f : Str} : ∀ {fv : List (Str × V)} {fs : List (Str × D)}, DaF K μ H fv fs → (∃ v d, fv.lookup f = some v ∧ fs.lookup f = some d ∧ Da K μ H v d) ∨ (fv.lookup f = none ∧ fs.lookup f = none)
  | _, _, .nil => .inr ⟨rfl, rfl⟩
  | _, _, .cons (n := n) h l => by
    cases q : f == n with
    | true => exact .inl ⟨_, _, by simp [List.lookup, q], by simp [List.lookup, q], h⟩
    | false =>
      rcases l.look (f := f) with ⟨v, d, a, b, c⟩ | ⟨a, b⟩
      · exact .inl ⟨v, d, by simpa [List.lookup, q] using a, by simpa [List.lookup, q] using b, c⟩
      · exact .inr ⟨by simpa [List.lookup, q] using a, by simpa [List.lookup, q] using b⟩
def putD (f : Str) (d : D) : List (Str × D) → List (Str × D)
  | [] => [(f, d)]
  | (g, x) :: r => if g = f then (g, d) :: r else (g, x) :: putD f d r
theorem DaF.put {f : Str} (h : Da K μ H v d) : ∀ {fv : List (Str × V)} {fs : List (Str × D)}, DaF K μ H fv fs → DaF K μ H (putF f v fv) (putD f d fs)
  | _, _, .nil => .cons h .nil
  | _, _, .cons (n := n) q l => by
    unfold putF putD
    by_cases e : n = f
    · rw [if_pos e, if_pos e]
      exact .cons h l
    · rw [if_neg e, if_neg e]
      exact .cons q (DaF.put h l)
theorem DaF.length : ∀ {fv : List (Str × V)} {fs : List (Str × D)}, DaF K μ H fv fs → fv.length = fs.length
  | _, _, .nil => rfl
  | _, _, .cons _ l => congrArg (· + 1) l.length
/-- what changed becomes data -/
def mdel (μ : Mu) (a : Addr) : Mu := fun b => if b = a then none else μ b
theorem mdel_same {a : Addr} : mdel μ a a = none := if_pos rfl
theorem mdel_ne {a b : Addr} (h : b ≠ a) : mdel μ a b = μ b := if_neg h
theorem mdel_none {a b : Addr} (h : μ b = none) : mdel μ a b = none := by unfold mdel; split <;> first | rfl | exact h
mutual
theorem Da.del (a : Addr) : ∀ {v : V} {d : D}, Da K μ H v d → Da K (mdel μ a) H v d
  | _, _, .non => .non
  | _, _, .bl b => .bl b
  | _, _, .int i => .int i
  | _, _, .str x => .str x
  | _, _, .ty n => .ty n
  | _, _, .ref a => .ref a
  | _, _, .lst n h l => .lst (mdel_none n) h (DaL.del a l)
  | _, _, .sq (.inl ⟨n, h⟩) l => .sq (.inl ⟨mdel_none n, h⟩) (DaL.del a l)
  | _, _, .sq (.inr h) l => .sq (.inr h) (DaL.del a l)
  | _, _, .tup (.inl ⟨n, h⟩) l => .tup (.inl ⟨mdel_none n, h⟩) (DaL.del a l)
  | _, _, .tup (.inr h) l => .tup (.inr h) (DaL.del a l)
  | _, _, .obj n h l => .obj (mdel_none n) h (DaF.del a l)
theorem DaL.del (a : Addr) : ∀ {vs : List V} {ds : List D}, DaL K μ H vs ds → DaL K (mdel μ a) H vs ds
  | _, _, .nil => .nil
  | _, _, .cons h l => .cons (Da.del a h) (DaL.del a l)
theorem DaF.del (a : Addr) : ∀ {vs : List (Str × V)} {ds : List (Str × D)}, DaF K μ H vs ds → DaF K (mdel μ a) H vs ds
  | _, _, .nil => .nil
  | _, _, .cons h l => .cons (Da.del a h) (DaF.del a l)
end
theorem DaK.del (a : Addr) : ∀ {vs : List (Key × V)} {ds : List (Key × D)}, DaK K μ H vs ds → DaK K (mdel μ a) H vs ds
  | _, _, .nil => .nil
  | _, _, .cons h l => .cons (h.del a) (l.del a)
theorem J.del {a : Addr} (j : J K μ H) : J K (mdel μ a) H := fun b o q => by
  by_cases e : b = a
  · subst e
    rw [mdel_same] at q
    cases q
  · rw [mdel_ne e] at q
    match o, j b o q with
    | .lst _, ⟨vs, h, l⟩ => exact ⟨vs, h, l.del a⟩
    | .dK _, ⟨vs, h, l⟩ => exact ⟨vs, h, l.del a⟩
    | .ins _ _, ⟨dx, fv, h, l⟩ => exact ⟨dx, fv, h, l.del a⟩
    | .hid, h => exact h
theorem Gr.del {μ' : Mu} {H' : Hp} {a : Addr} (g : Gr μ H μ' H') (n : H a = none) (n' : μ a = none) : Gr μ H (mdel μ' a) H' where
  hid := fun b o h h' => by
    have e : b ≠ a := fun e => by rw [e, n'] at h; cases h
    rw [mdel_ne e]
    exact g.hid b o h h'
  keep := g.keep
  dom := fun b h => by
    have e : b ≠ a := fun e => h (e ▸ n')
    rw [mdel_ne e]
    exact g.dom b h
  new := fun b h h' => by
    by_cases e : b = a
    · rw [e]; exact n
    · rw [mdel_ne e] at h'
      exact g.new b h h'
end

/-! ### fields -/
def gFld (C : Addr) (f : Str) : D → Mu → DQ → Prop := fun x μ Q => ∃ fs d, oin μ x = some (C, fs) ∧ fs.lookup f = some d ∧ Q d μ
def dFld (C : Addr) (f : Str) (to : DE) : DE := fun ρ μ Q => to ρ μ fun x μ1 => gFld C f x μ1 Q
section
variable {X : Cx} {pos p apos : Pos} {o e value : Expr} {es : List Expr} {kws : List Keyword} {tA : DA} {to tv : DE} {n k j : Nat} {ks ps : List Str} {dd : List D} {ix : List Nat} {spd : SpD} {x m f : Str} {fa C g : Addr} {fd : FuncData}
theorem pd_fld (c : Cls X.K C) (na : NoAttr X.K C f) (ho : PD X o to) (hb : attributeBase o f X.env (eval o X.env) = eval o X.env := by rfl) : PD X (.Attribute o f pos) (dFld C f to) := by
  refine .of fun pins s σ H ρ μ Q Qd I ok q kk => ?_
  refine attr_of hb (thn (ho.run I ok q) ?_)
  rintro u s1 ⟨v, H1, I1, ru, d, μ1, g1, j1, h1, fs, y, e1, e2, q1⟩
  obtain ⟨a, dx, fv, rfl, ea, l⟩ := h1.ins j1 e1
  obtain rfl : u = Value.ref a := ru
  rcases l.look (f := f) with ⟨z, y', a1, a2, a3⟩ | ⟨_, a2⟩
  · rw [e2] at a2
    cases a2
    exact getattr_ok I1 ea c na a1 fun u' s2 I2 ru' => ⟨z, H1, I2, ru', (kk.after g1).now j1 a3 q1⟩
  · rw [e2] at a2
    cases a2
/-- o.f = value, o an instance that changes -/
def gSetF (C : Addr) (f : Str) : D → D → Mu → (Mu → Prop) → Prop := fun x d μ Q => ∃ a fs, x = .ref a ∧ μ a = some (.ins C fs) ∧ fs.length < 1000 ∧ Q (mup μ a (.ins C (putD f d fs)))
def dSetF (C : Addr) (f : Str) (to tv : DE) : DS := fun D ρ μ => tv ρ μ fun y μ1 => to ρ μ1 fun x μ2 => gSetF C f x y μ2 fun μ3 => D.nx ρ μ3
theorem PDS.of {st : Stmt} {t : DS} (h : ∀ pins s σ H ρ μ D Dd, Inv X pins σ H s → Okd X.K μ H σ ρ → t Dd ρ μ → EK X.K μ H D Dd → wpAny (model X.prog X.w) X.A (exec st X.env) (SP X pins D) X.xe s) : PDS X st t :=
  ⟨fun D σ H => ∃ ρ μ Dd, Okd X.K μ H σ ρ ∧ t Dd ρ μ ∧ EK X.K μ H D Dd, ⟨fun pins s σ H D I ⟨ρ, μ, Dd, o, q, k⟩ => h pins s σ H ρ μ D Dd I o q k⟩, fun o q k => ⟨_, _, _, o, q, k⟩⟩
theorem ds_fld {pos' : Pos} (c : Cls X.K C) (na : NoAttr X.K C f) (ho : PD X o to) (hv : PD X value tv) (hs : swapsWith value (some (.Attribute o f pos')) pos.line X.env = pure false := by rfl) : PDS X (.Assign [.Attribute o f pos'] value pos) (dSetF C f to tv) := by
  refine .of fun pins s σ H ρ μ D Dd I ok q kk => ?_
  refine plainObj_wpAny_Assign_Attribute (thn (hv.run I ok q) ?_) hs
  rintro u s1 ⟨y, H1, I1, ry, d, μ1, g1, j1, h1, q1⟩
  refine thn (ho.run I1 (ok.grow g1 j1) q1) ?_
  rintro ov s2 ⟨x, H2, I2, rx, dx, μ2, g2, j2, h2, a, fs, rfl, e1, e2, q2⟩
  cases h2
  obtain rfl : ov = Value.ref a := rx
  obtain ⟨ddx, fv, ea, l⟩ := j2 a _ e1
  have gg : Gr μ2 H2 (mup μ2 a (.ins C (putD f d fs))) (upd H2 a (.ins C ddx (putF f y fv))) := Gr.turn e1
  refine setattr_ok I2 ea c na (by rw [l.length]; exact e2) ry fun s3 I3 => ⟨σ, _, I3, ?_⟩
  have jj := j2.turn (o := .ins C ddx (putF f y fv)) (u' := .ins C (putD f d fs)) e1 ⟨_, _, upd_same, (DaF.put (h1.grow g2) l).grow gg⟩
  exact kk.nx _ _ _ _ ((g1.trans g2).trans gg) (((ok.grow g1 j1).grow g2 j2).grow gg jj) q2

/-! ### C(..) -/
/-- the instance is data from then on -/
def dMake (C : Addr) (spd : SpD) (dd : List D) (ix : List Nat) (t : DA) : DE := fun ρ μ Q => t ρ μ fun ds μ1 => ∀ a, μ1 a = none → spd (pick ix (.ref a :: (ds ++ dd))) (mup μ1 a (.ins C [])) fun r μ2 => r = .non ∧ ∃ fs, μ2 a = some (.ins C fs) ∧ Q (.obj C fs) (mdel μ2 a)
/-- the instance changes -/
def dMakeM (C : Addr) (spd : SpD) (dd : List D) (ix : List Nat) (t : DA) : DE := fun ρ μ Q => t ρ μ fun ds μ1 => ∀ a, μ1 a = none → spd (pick ix (.ref a :: (ds ++ dd))) (mup μ1 a (.ins C [])) fun r μ2 => r = .non ∧ Q (.ref a) μ2
theorem make_at (M : Mk X.K C fa) (F : FnG X.prog X.w X.K X.mg X.base CX0 k fa fd ps (up X.K spd)) (hb : Bnd X.K fd ps (n + 1) ks dd ix) (hr : Room (k + 1) X.A) (hgu : X.A.guards = some [])
    {pins : List (Addr × Obj)} {s : Shared} {σ : L2.St} {H : Hp} {μ : Mu} {us ws : List Value} {vs zs : List V} {ds : List D} {R : Value → Shared → Prop} (I : Inv X pins σ H s) (r1 : Vals vs us) (r2 : Vals zs ws) (h1 : us.length = n) (h2 : ws.length = ks.length) (j : J X.K μ H) (l : DaL X.K μ H (vs ++ zs) ds)
    {Qd : Addr → DQ} (q : ∀ a, μ a = none → spd (pick ix (.ref a :: (ds ++ dd))) (mup μ a (.ins C [])) (Qd a))
    (h : ∀ a H2 μ2 s2 d, Inv X pins σ H2 s2 → H a = none → μ a = none → Gr (mup μ a (.ins C [])) H2 (mup μ a (.ins C [])) H2 → Gr μ H μ2 H2 → J X.K μ2 H2 → Da X.K μ2 H2 .non d → Qd a d μ2 → d = .non ∧ R (.ref a) s2)
    (hnn : ∀ a d μ2, Qd a d μ2 → d = .non) :
    wpAny (model X.prog X.w) X.A (call (.ref C) us (ks.zip ws)) R X.xe s := by
  have I2 := Inv.made (C := C) I
  have nx : H (s.heap.objs.size + 1) = none := I.hok.fresh (Nat.le_succ _)
  have nd : H s.heap.objs.size = none := I.hok.fresh (Nat.le_refl _)
  have ne : s.heap.objs.size + 1 ≠ s.heap.objs.size := Nat.succ_ne_self _
  have g0 : Gr μ H μ (upd H s.heap.objs.size (.own (s.heap.objs.size + 1))) := Gr.laid nd
  have j0 := j.laid (o := .own (s.heap.objs.size + 1)) nd
  have nx' : upd H s.heap.objs.size (.own (s.heap.objs.size + 1)) (s.heap.objs.size + 1) = none := by rw [upd_ne ne]; exact nx
  have g1 : Gr μ (upd H s.heap.objs.size (.own (s.heap.objs.size + 1))) (mup μ (s.heap.objs.size + 1) (.ins C [])) (upd (upd H s.heap.objs.size (.own (s.heap.objs.size + 1))) (s.heap.objs.size + 1) (.ins C s.heap.objs.size [])) := Gr.born nx'
  have j1 := j0.born (o := .ins C s.heap.objs.size []) (u := .ins C []) nx' ⟨_, _, upd_same, .nil⟩
  have na := j.free nx
  obtain ⟨vs', us', rv, bt, dl⟩ := hb.to { s with heap := (s.heap.push PySem.W.emptyDict).push (PySem.W.instObj C s.heap.objs.size) } (.ref (s.heap.objs.size + 1) :: us) ws (.ref (s.heap.objs.size + 1) :: vs) zs I2.kIn (by rw [List.length_cons, h1]) h2 (.cons rfl r1) r2
  have l2 := dl (.cons (.ref (s.heap.objs.size + 1)) ((l.grow g0).grow g1))
  refine wpAny_call (make_map (f := fa) I.kIn M.makes M.init (beq_iff_eq.mp M.fn) ?_)
  have hg' : (X.A.under (.builtin "type.__call__" ⟨.ref C :: us, ks.zip ws⟩)).guards = some [] := by
    first
    | (show pushGuards _ X.A.guards = _; rw [hgu]; rfl)
    | simp [Around.under, Code.guards, Code.isGuard, pushGuards, hgu, guardIds]
  refine codeAny_mono (F.go (E := E0) hg' (hr.make C us _) (I2.env0.make C us _) bt rv ⟨_, _, _, j1, l2, q _ na, ktKD⟩) fun r s' hq => ?_
  match r, hq with
  | .error e, hq => exact hq.elim
  | .ok (.ret u), hq =>
    obtain ⟨v, H', I3, rv', d, μ2, g2, j2, h2, q2⟩ := I2.after hq
    have e0 := hnn _ _ _ q2
    subst e0
    cases h2
    have eu : u = Value.none := rv'
    obtain ⟨_, hR⟩ := h _ H' μ2 s' .non I3 nx na Gr.refl ((g0.trans g1).trans g2) j2 .non q2
    exact ⟨eu, hR⟩
theorem pd_make (M : Mk X.K C fa) (nm : X.mg x = some (.ref C)) (F : FnG X.prog X.w X.K X.mg X.base CX0 k fa fd ps (up X.K spd)) (hb : Bnd X.K fd ps (n + 1) ks dd ix) (hr : Room j X.A) (hgu : X.A.guards = some []) (ha : PDC X pos es kws n ks tA) (hk : k + 1 ≤ j := by decide) (hg : Gl X x := by rfl)
    (hdb : (x == ("__debug__" : Str)) = false := by decide) : PD X (.Call (.Name x p) es kws pos) (dMake C spd dd ix tA) := by
  refine .of fun pins s σ H ρ μ Q Qd I ok q kk => ?_
  refine wpAny_Call_Name_kw (ld_glob I hg nm ?_ hdb)
  refine ha.go (first := []) I M.kp ok q fun us ws vs zs ds H2 μ2 s2 I2 r1 r2 h1 h2 g2 j2 l2 q2 => ?_
  refine make_at M F hb (hr.mono hk) hgu I2 r1 r2 h1 h2 j2 l2 q2 (fun a H3 μ3 s3 d I3 n1 n2 _ g3 j3 h3 q3 => ⟨q3.1, ?_⟩) fun a d μ3 q3 => q3.1
  obtain ⟨_, fs, e, q3⟩ := q3
  obtain ⟨dx, fv, ea, l⟩ := j3 a _ e
  exact ⟨.ref a, H3, I3, rfl, kk _ _ _ _ (g2.trans (g3.del n1 n2)) j3.del (.obj mdel_same ea (l.del a)) q3⟩
theorem pd_makeM (M : Mk X.K C fa) (nm : X.mg x = some (.ref C)) (F : FnG X.prog X.w X.K X.mg X.base CX0 k fa fd ps (up X.K spd)) (hb : Bnd X.K fd ps (n + 1) ks dd ix) (hr : Room j X.A) (hgu : X.A.guards = some []) (ha : PDC X pos es kws n ks tA) (hk : k + 1 ≤ j := by decide) (hg : Gl X x := by rfl)
    (hdb : (x == ("__debug__" : Str)) = false := by decide) : PD X (.Call (.Name x p) es kws pos) (dMakeM C spd dd ix tA) := by
  refine .of fun pins s σ H ρ μ Q Qd I ok q kk => ?_
  refine wpAny_Call_Name_kw (ld_glob I hg nm ?_ hdb)
  refine ha.go (first := []) I M.kp ok q fun us ws vs zs ds H2 μ2 s2 I2 r1 r2 h1 h2 g2 j2 l2 q2 => ?_
  refine make_at M F hb (hr.mono hk) hgu I2 r1 r2 h1 h2 j2 l2 q2 (fun a H3 μ3 s3 d I3 n1 n2 _ g3 j3 h3 q3 => ⟨q3.1, ?_⟩) fun a d μ3 q3 => q3.1
  exact ⟨.ref a, H3, I3, rfl, kk _ _ _ _ (g2.trans g3) j3 (.ref a) q3.2⟩

/-! ### o.m(..) -/
def dMeth (C : Addr) (m : Str) (spd : SpD) (dd : List D) (ix : List Nat) (to : DE) (t : DA) : DE := fun ρ μ Q => to ρ μ fun x μ1 => (∃ fs, oin μ1 x = some (C, fs) ∧ fs.lookup m = none) ∧ t ρ μ1 fun ds μ2 => spd (pick ix (x :: (ds ++ dd))) μ2 Q
theorem pd_meth {pl : Sem Bool} (c : Cls X.K C) (me : Meth X.K C m fa) (F : FnG X.prog X.w X.K X.mg X.base CX0 k fa fd ps (up X.K spd)) (hb : Bnd X.K fd ps (n + 1) ks dd ix) (hr : Room j X.A) (hgu : X.A.guards = some []) (ho : PD X o to) (ha : PDC X pos es kws n ks tA) (hk : k ≤ j := by decide)
    (ht : eval (.Call (.Attribute o m apos) es kws pos) X.env = (do
      let ov ← eval o X.env
      standAt apos.atName
      let (f, first) ← holding [ov] (getMethod ov m pl)
      callWith pos f first (backTo pos (starEach es X.env)) (backToKw pos (keywordEach kws X.env))) := by rfl) : PD X (.Call (.Attribute o m apos) es kws pos) (dMeth C m spd dd ix to tA) := by
  refine .of fun pins s σ H ρ μ Q Qd I ok q kk => ?_
  refine PySem.W.methodCall_KW (pl := pl) (thn (ho.run I ok q) ?_) ht
  rintro u s1 ⟨v, H1, I1, ru, d, μ1, g1, j1, h1, ⟨fs, e1, e2⟩, q1⟩
  obtain ⟨a, dx, fv, rfl, ea, l⟩ := h1.ins j1 e1
  obtain rfl : u = Value.ref a := ru
  have hn : fv.lookup m = none := by
    rcases l.look (f := m) with ⟨_, _, _, b, _⟩ | ⟨b, _⟩
    · rw [e2] at b; cases b
    · exact b
  refine getmeth_ok I1 ea c me hn ?_
  refine ha.go (first := [.ref a]) I1 me.kp (ok.grow g1 j1) q1 fun us ws vs zs ds H2 μ2 s2 I2 r1 r2 h1' h2 g2 j2 l2 q2 => ?_
  obtain ⟨vs', us', rv, bt, dl⟩ := hb.to s2 (.ref a :: us) ws (.ref a :: vs) zs I2.kIn (by rw [List.length_cons, h1']) h2 (.cons rfl r1) r2
  refine run_at F hgu (hr.mono hk) I2 I2.env0 bt rv j2 (dl (.cons (h1.grow g2) l2)) q2 ?_
  rintro u s' ⟨v, H3, I3, ru, d, μ3, g3, j3, h3, q3⟩
  exact ⟨v, H3, I3, ru, kk _ _ _ _ ((g1.trans g2).trans g3) j3 h3 q3⟩
/-- o.f, a property -/
def dProp (C : Addr) (spd : SpD) (to : DE) : DE := fun ρ μ Q => to ρ μ fun x μ1 => (∃ fs, oin μ1 x = some (C, fs)) ∧ spd [x] μ1 Q
theorem pd_prop (c : Cls X.K C) (hp : PropOf X.K C f g fa) (F : FnG X.prog X.w X.K X.mg X.base CX0 k fa fd ps (up X.K spd)) (hb : Binds X.K fd ps []) (hr : Room j X.A) (hgu : X.A.guards = some []) (ho : PD X o to) (hk : k + 1 ≤ j := by decide) (hl : ps.length = 1 := by rfl)
    (hab : attributeBase o f X.env (eval o X.env) = eval o X.env := by rfl) : PD X (.Attribute o f pos) (dProp C spd to) := by
  refine .of fun pins s σ H ρ μ Q Qd I ok q kk => ?_
  refine attr_of hab (thn (ho.run I ok q) ?_)
  rintro u s1 ⟨v, H1, I1, ru, d, μ1, g1, j1, h1, ⟨fs, e1⟩, q1⟩
  obtain ⟨a, dx, fv, rfl, ea, l⟩ := h1.ins j1 e1
  obtain rfl : u = Value.ref a := ru
  obtain ⟨mA, O, _, _, _, _⟩ := ins_get I1.hok ea
  obtain ⟨od, Jn, _⟩ := O.look
  obtain ⟨rest, hrec⟩ := hp.rec_
  have I2 := I1.tok (s1.toks + 1)
  have hc : (PySem.W.clsIn X.K C).isSome = true := by
    obtain ⟨cd, hc, _⟩ := PySem.W.any_some c.hd
    rw [hc]
    rfl
  refine PySem.W.get_bind I1.kIn Jn (PySem.W.plainGet_of (c.get f)).1 (PySem.W.findObj_data hc hp.at_ hp.get hp.tak) (PySem.W.plainGet_of (c.get f)).2 (wpAny_call (PySem.W.prop_get (s := { s1 with toks := s1.toks + 1 }) I1.kIn hrec ?_))
  refine codeAny_mono (F.go (E := E0) (args := ⟨[.ref a], []⟩) (us := [.ref a]) (vs := [.ref a]) (A := X.A.in1) hgu (hr.mono hk).in1 I2.env0.in1 (hb _ [.ref a] I2.kIn (by rw [hl]; rfl)) (.cons rfl .nil) ⟨[d], μ1, Qd, j1, .cons h1 .nil, q1, ktKD⟩) fun r s' hq => ?_
  match r, hq with
  | .error e, hq => exact hq.elim
  | .ok (.ret u), hq =>
    obtain ⟨v, H3, I3, rv, d, μ3, g3, j3, h3, q3⟩ := I2.after hq
    show wpAny _ _ (handedOut u) _ _ _
    rw [PySem.W.handedOut_of (handed_of rv)]
    exact wpAny_pure ⟨v, H3, I3, rv, kk _ _ _ _ (g1.trans g3) j3 h3 q3⟩
end
end Dl

/-! while, comprehensions, truth, operators of own classes. -/
namespace Dl
open PySem PySem.Spec PyProof.Rows L2
/-! ### one reading for all contexts -/
section
variable {X : Cx} {K : PySem.W.Frag}
def canE (K : PySem.W.Frag) (t : DE) : TE := fun σ H Q => ∃ ρ μ Qd, Okd K μ H σ ρ ∧ t ρ μ Qd ∧ Kt K μ H Q Qd
def canT (K : PySem.W.Frag) (t : DT) : TT := fun σ H Q => ∃ ρ μ Qd, Okd K μ H σ ρ ∧ t ρ μ Qd ∧ KtB K μ H Q Qd
theorem PD.can {e : Expr} {t : DE} (h : PD X e t) : PE X e (canE X.K t) := by
  obtain ⟨te, p, f⟩ := h.ex
  exact ⟨fun pins s σ H Q I ⟨ρ, μ, Qd, o, q, k⟩ => p.run pins s σ H Q I (f o q k)⟩
theorem PDT.can {e : Expr} {t : DT} (h : PDT X e t) : PT X e (canT X.K t) := by
  obtain ⟨te, p, f⟩ := h.ex
  exact ⟨fun pins s σ H Q I ⟨ρ, μ, Qd, o, q, k⟩ => p.run pins s σ H Q I (f o q k)⟩
end
/-! ### while -/
def dWhile (c : DT) (tb : DS) : DS := fun D ρ μ => ∃ W : Nat → Ro → Mu → Prop, (∃ m, W m ρ μ) ∧ ∀ m ρ μ, W m ρ μ →
  c ρ μ fun b μ1 => if b = true then tb { D with nx := fun ρ' μ' => ∃ m', m' < m ∧ W m' ρ' μ', ct := fun ρ' μ' => ∃ m', m' < m ∧ W m' ρ' μ', bk := D.nx } ρ μ1 else D.nx ρ μ1
theorem ds_while {X : Cx} {pos : Pos} {c : Expr} {body : List Stmt} {tc : DT} {tb : DS} (hp : PassesOwn (model X.prog X.w) X.A X.env X.xe) (hc : PDT X c tc) (hb : PDSs X body tb) : PDS X (.While c body [] pos) (dWhile tc tb) := by
  obtain ⟨ec, pc, fc⟩ := hc.ex
  obtain ⟨eb, pb, fb⟩ := hb.ex
  refine ⟨_, ps_while hp pc pb, @fun σ H ρ μ D Dd o t k => ?_⟩
  obtain ⟨W, ⟨m0, w0⟩, turn⟩ := t
  refine ⟨fun n σ' H' => ∃ ρ' μ', Gr μ H μ' H' ∧ Okd X.K μ' H' σ' ρ' ∧ W n ρ' μ', ⟨m0, ρ, μ, Gr.refl, o, w0⟩, ?_⟩
  rintro n σ1 H1 ⟨ρ1, μ1, g1, o1, w1⟩
  refine fc o1 (turn n ρ1 μ1 w1) fun b H2 μ2 g2 j2 t2 => ?_
  have o2 := o1.grow g2 j2
  cases b with
  | false => exact iteF (k.nx _ _ _ _ (g1.trans g2) o2 (by simpa using t2))
  | true =>
    refine iteT ⟨fun σ' H' => ∃ m', m' < n ∧ ∃ ρ' μ', Gr μ H μ' H' ∧ Okd X.K μ' H' σ' ρ' ∧ W m' ρ' μ', fun σ' H' h => h, ?_⟩
    have t2' : tb { Dd with nx := fun ρ' μ' => ∃ m', m' < n ∧ W m' ρ' μ', ct := fun ρ' μ' => ∃ m', m' < n ∧ W m' ρ' μ', bk := Dd.nx } ρ1 μ2 := by simpa using t2
    refine fb o2 t2' ⟨?_, (k.rt.after g1).after g2, (k.nx.after g1).after g2, ?_⟩
    · rintro σ5 H5 ρ5 μ5 g5 o5 ⟨m', hm, w'⟩
      exact ⟨m', hm, ρ5, μ5, (g1.trans g2).trans g5, o5, w'⟩
    · rintro σ5 H5 ρ5 μ5 g5 o5 ⟨m', hm, w'⟩
      exact ⟨m', hm, ρ5, μ5, (g1.trans g2).trans g5, o5, w'⟩

/-! ### comprehensions -/
section
variable {K : PySem.W.Frag} {μ μ1 : Mu} {H H1 : Hp} {E : Addr} {x : HO}
theorem ne_of_mu {a : Addr} (n : μ E ≠ none) (m : μ a = none) : a ≠ E := fun e => n (by rw [← e]; exact m)
mutual
theorem Da.over (n : μ E ≠ none) : ∀ {v : V} {d : D}, Da K μ H v d → Da K μ (upd H E x) v d
  | _, _, .non => .non
  | _, _, .bl b => .bl b
  | _, _, .int i => .int i
  | _, _, .str x => .str x
  | _, _, .ty n => .ty n
  | _, _, .ref a => .ref a
  | _, _, .lst m h l => .lst m (by rw [upd_ne (ne_of_mu n m)]; exact h) (DaL.over n l)
  | _, _, .sq (.inl ⟨m, h⟩) l => .sq (.inl ⟨m, by unfold Rd at h ⊢; rw [upd_ne (ne_of_mu n m)]; exact h⟩) (DaL.over n l)
  | _, _, .sq (.inr h) l => .sq (.inr h) (DaL.over n l)
  | _, _, .tup (.inl ⟨m, h⟩) l => .tup (.inl ⟨m, by unfold Rd at h ⊢; rw [upd_ne (ne_of_mu n m)]; exact h⟩) (DaL.over n l)
  | _, _, .tup (.inr h) l => .tup (.inr h) (DaL.over n l)
  | _, _, .obj m h l => .obj m (by rw [upd_ne (ne_of_mu n m)]; exact h) (DaF.over n l)
theorem DaL.over (n : μ E ≠ none) : ∀ {vs : List V} {ds : List D}, DaL K μ H vs ds → DaL K μ (upd H E x) vs ds
  | _, _, .nil => .nil
  | _, _, .cons h l => .cons (Da.over n h) (DaL.over n l)
theorem DaF.over (n : μ E ≠ none) : ∀ {vs : List (Str × V)} {ds : List (Str × D)}, DaF K μ H vs ds → DaF K μ (upd H E x) vs ds
  | _, _, .nil => .nil
  | _, _, .cons h l => .cons (Da.over n h) (DaF.over n l)
end
theorem DaK.over (n : μ E ≠ none) : ∀ {vs : List (Key × V)} {ds : List (Key × D)}, DaK K μ H vs ds → DaK K μ (upd H E x) vs ds
  | _, _, .nil => .nil
  | _, _, .cons h l => .cons (h.over n) (l.over n)
theorem J.over (j : J K μ H) (e : μ E = some .hid) : J K μ (upd H E x) := fun b o q => by
  have n : μ E ≠ none := by rw [e]; simp
  by_cases h : b = E
  · subst h
    rw [e] at q
    cases q
    show upd H b x b ≠ none
    rw [upd_same]
    simp
  · match o, j b o q with
    | .lst _, ⟨vs, a, l⟩ => exact ⟨vs, by rw [upd_ne h]; exact a, l.over n⟩
    | .dK _, ⟨vs, a, l⟩ => exact ⟨vs, by rw [upd_ne h]; exact a, l.over n⟩
    | .ins _ _, ⟨dx, fv, a, l⟩ => exact ⟨dx, fv, by rw [upd_ne h]; exact a, l.over n⟩
    | .hid, a => show upd H E x b ≠ none; rw [upd_ne h]; exact a
theorem Gr.over (g : Gr μ H μ1 H1) (n : H E = none) : Gr μ H μ1 (upd H1 E x) where
  keep := fun b o m h => by rw [upd_ne (ne_of_none h n)]; exact g.keep b o m h
  dom := g.dom
  new := g.new
  hid := fun b o m h => ⟨(g.hid b o m h).1, by rw [upd_ne (ne_of_none h n)]; exact (g.hid b o m h).2⟩
theorem Okd.over {σ : L2.St} {ρ : Ro} (o : Okd K μ H σ ρ) (e : μ E = some .hid) : Okd K μ (upd H E x) σ ρ := ⟨o.j.over e, o.len, fun i d h => let ⟨v, a, b⟩ := o.of i d h; ⟨v, a, b.over (by rw [e]; simp)⟩⟩
theorem Okd.forget {σ : L2.St} {ρ : Ro} (o : Okd K μ H σ ρ) (i : Nat) (u : Option V) : Okd K μ H (σ.set i u) (ρ.set i none) := by
  refine ⟨o.j, by simpa using o.len, fun k e he => ?_⟩
  by_cases hk : k = i
  · subst hk
    by_cases hl : k < ρ.length
    · rw [List.getElem?_set_self hl] at he
      cases he
    · rw [List.getElem?_eq_none (by simpa using hl)] at he
      cases he
  · rw [List.getElem?_set_ne (Ne.symm hk)] at he ⊢
    exact o.of k e he
end
def wipeD (ρ : Ro) : List Nat → Ro
  | [] => ρ
  | v :: vs => (wipeD ρ vs).set v none
theorem Okd.wipe {K : PySem.W.Frag} {μ : Mu} {H : Hp} {σ : L2.St} {ρ : Ro} (o : Okd K μ H σ ρ) : ∀ vs : List Nat, Okd K μ H (L2.wipe σ vs) (wipeD ρ vs)
  | [] => o
  | v :: vs => (Okd.wipe o vs).forget v none
theorem set_comm' {α : Type} {l : List α} {i j : Nat} {a b : α} (h : i ≠ j) : (l.set i a).set j b = (l.set j b).set i a := List.set_comm _ _ h
theorem wipe_set {σ : L2.St} {i : Nat} {u : Option V} : ∀ {vs : List Nat}, i ∈ vs → L2.wipe (σ.set i u) vs = L2.wipe σ vs
  | v :: vs, h => by
    show (L2.wipe (σ.set i u) vs).set v none = (L2.wipe σ vs).set v none
    by_cases e : i ∈ vs
    · rw [wipe_set e]
    · have : v = i := by
        rcases List.mem_cons.mp h with q | q
        · exact q.symm
        · exact absurd q e
      subst this
      have k : ∀ {ws : List Nat}, v ∉ ws → L2.wipe (σ.set v u) ws = (L2.wipe σ ws).set v u := by
        intro ws
        induction ws with
        | nil => intro _; rfl
        | cons a r ih =>
          intro hn
          show (L2.wipe (σ.set v u) r).set a none = ((L2.wipe σ r).set a none).set v u
          rw [ih fun z => hn (List.mem_cons_of_mem _ z), set_comm' fun z => hn (by rw [z]; exact List.mem_cons_self)]
      rw [k e, List.set_set]
/-- targets that write the slots vs alone -/
def canG (K : PySem.W.Frag) (vs : List Nat) (g : DG) : TG := fun v σ H Q => ∃ d ρ μ Qd, Okd K μ H σ ρ ∧ Da K μ H v d ∧ g d ρ μ Qd ∧ ∀ σ' H' ρ' μ', Gr μ H μ' H' → Okd K μ' H' σ' ρ' → L2.wipe σ' vs = L2.wipe σ vs → Qd ρ' μ' → Q σ' H'
def canGs (K : PySem.W.Frag) (vs : List Nat) (g : DGs) : TGs := fun v σ H Q => ∃ d ρ μ Qd, Okd K μ H σ ρ ∧ DaL K μ H v d ∧ g d ρ μ Qd ∧ ∀ σ' H' ρ' μ', Gr μ H μ' H' → Okd K μ' H' σ' ρ' → L2.wipe σ' vs = L2.wipe σ vs → Qd ρ' μ' → Q σ' H'
structure PCG (X : Cx) (vs : List Nat) (tg : Expr) (g : DG) : Prop where
  ok : PG X tg (canG X.K vs g)
structure PCGs (X : Cx) (vs : List Nat) (tg : List Expr) (g : DGs) : Prop where
  ok : PGs X tg (canGs X.K vs g)
section
variable {X : Cx} {vs : List Nat} {pos : Pos} {e : Expr} {es : List Expr}
theorem cg_name {i : Nat} {x : Str} (hN : X.N.Nodup) (hm : i ∈ vs := by decide) (hi : X.N[i]? = some x := by rfl) (hx : Loc X.env.scope x := by first | exact .inl rfl | exact .inr rfl) (hf : X.fn x = true ∨ X.env.scope.names.lookup x = some .local := by first | exact .inl rfl | exact .inr rfl | assumption) : PCG X vs (.Name x pos) (dName i) := by
  refine ⟨⟨fun pins s σ H v u Q I r h => ?_⟩⟩
  obtain ⟨d, ρ, μ, Qd, o, hd, q, k⟩ := h
  exact (pg_name hN hi hx hf).run pins s σ H v u Q I r (k _ _ _ _ Gr.refl (o.set i hd) (wipe_set hm) q)
theorem cgs_nil : PCGs X vs [] dGNil := by
  refine ⟨⟨fun pins s σ H ws us Q I r h => ?_⟩⟩
  obtain ⟨d, ρ, μ, Qd, o, hd, q, k⟩ := h
  cases hd with
  | nil => exact pgs_nil.run pins s σ H [] us Q I r ⟨rfl, k _ _ _ _ Gr.refl o rfl q⟩
  | cons _ _ => exact q.elim
theorem cgs_cons {g : DG} {gs : DGs} (h1 : PCG X vs e g) (h2 : PCGs X vs es gs) (hs : (assignEach (e :: es) X.env).map (·.2) = assign e X.env :: (assignEach es X.env).map (·.2) := by rfl) : PCGs X vs (e :: es) (dGCons g gs) := by
  refine ⟨⟨fun pins s σ H ws us Q I r h => ?_⟩⟩
  obtain ⟨d, ρ, μ, Qd, o, hd, q, k⟩ := h
  cases hd with
  | nil => exact q.elim
  | cons hd l =>
    refine (pgs_cons h1.ok h2.ok hs).run pins s σ H _ us Q I r ⟨_, _, rfl, _, ρ, μ, _, o, hd, q, fun σ1 H1 ρ1 μ1 g1 o1 w1 q1 => ?_⟩
    exact ⟨_, ρ1, μ1, Qd, o1, l.grow g1, q1, fun σ2 H2 ρ2 μ2 g2 o2 w2 q2 => k _ _ _ _ (g1.trans g2) o2 (w2.trans w1) q2⟩
theorem cg_tup {k : Nat} {gs : DGs} (hc : X.calm = true) (h : PCGs X vs es gs) (hn : (assignEach es X.env).length = es.length := by rfl) (hst : (assignEach es X.env).findIdx? (·.1) = none := by rfl) : PCG X vs (.Tuple es k pos) (dGTup es.length gs) := by
  refine ⟨⟨fun pins s σ H v u Q I r hh => ?_⟩⟩
  obtain ⟨d, ρ, μ, Qd, o, hd, q, kk⟩ := hh
  unfold dGTup at q
  split at q
  · cases hd with | tup e l =>
    exact (pg_tup hc h.ok hn hst).run pins s σ H _ u Q I r ⟨_, _, rfl, Da.sqT e, l.length.trans q.1, _, ρ, μ, Qd, o, l, q.2, kk⟩
  · exact q.elim
end
/-- a clause's tests -/
structure PDTs (X : Cx) (ifs : List Expr) (t : DT) : Prop where
  ok : PTs X ifs (canT X.K t)
def dYes : DT := fun _ μ Q => Q true μ
section
variable {X : Cx} {vs : List Nat} {pos : Pos} {e : Expr} {es : List Expr}
theorem pdts_nil : PDTs X [] dYes := ⟨⟨fun pins s σ H Q I h => by
  obtain ⟨ρ, μ, Qd, o, q, k⟩ := h
  exact pts_nil.run pins s σ H Q I (k _ _ _ Gr.refl o.j q)⟩⟩
theorem pdts_one {t : DT} (h : PDT X e t) : PDTs X [e] t := ⟨pts_one h.can⟩
/-- [elt for target in iter if ..] -/
def dLc (ti : DI) (g : DG) (tt : DT) (te : DE) (vs : List Nat) : DE := fun ρ μ Q => ti ρ μ fun xs src μ1 => ∀ E, μ1 E = none → ∃ Pv : Nat → List D → Mu → Prop, Pv 0 [] (mup μ1 E .hid) ∧ (∀ i acc μ, Pv i acc μ → src μ) ∧
  (∀ i x acc μ, xs[i]? = some x → Pv i acc μ → g x (wipeD ρ vs) μ fun ρ2 μ2 => tt ρ2 μ2 fun b μ3 => if b = true then te ρ2 μ3 fun y μ4 => acc.length < sizeLine ∧ Pv (i + 1) (acc ++ [y]) μ4 else Pv (i + 1) acc μ3) ∧
  ∀ acc μ, Pv xs.length acc μ → Q (.lst acc) (mdel μ E)
theorem lc_read {K : PySem.W.Frag} {own : List (Str × Nat)} {ti : DI} {wi : TI} {g : DG} {tt : DT} {te : DE}
    (fi : ∀ {σ : L2.St} {H : Hp} {ρ : Ro} {μ : Mu} {R : It → Hp → Prop} {Rd : List D → (Mu → Prop) → Mu → Prop}, Okd K μ H σ ρ → ti ρ μ Rd → (∀ It xs src H' μ', Gr μ H μ' H' → J K μ' H' → ItD K It xs src μ' H' → Rd xs src μ' → R It H') → wi σ H R)
    {σ : L2.St} {H : Hp} {ρ : Ro} {μ : Mu} {Q : VK} {Qd : DQ} (o : Okd K μ H σ ρ) (t : dLc ti g tt te (own.map (·.2)) ρ μ Qd) (k : Kt K μ H Q Qd) : tLc wi (canG K (own.map (·.2)) g) (canT K tt) (canE K te) (own.map (·.2)) σ H Q := by
  refine fi o t fun It xs src H1 μ1 g1 j1 I t1 E nE => ?_
  obtain ⟨Pv, p0, psrc, pt, pe⟩ := t1 E (j1.free nE)
  have o1 := (o.grow g1 j1).wipe (own.map (·.2))
  have nE' := j1.free nE
  have gb : Gr μ1 H1 (mup μ1 E .hid) (upd H1 E (.lst [])) := Gr.born nE
  have jb : J K (mup μ1 E .hid) (upd H1 E (.lst [])) := j1.born nE (by show upd H1 E _ E ≠ none; rw [upd_same]; simp)
  refine ⟨fun i m H2 => m = xs.length - i ∧ i ≤ xs.length ∧ ∃ av acc μ2, H2 E = some (.lst av) ∧ μ2 E = some .hid ∧ DaL K μ2 H2 av acc ∧ Gr μ1 H1 μ2 H2 ∧ Okd K μ2 H2 (L2.wipe σ (own.map (·.2))) (wipeD ρ (own.map (·.2))) ∧ Pv i acc μ2,
    ⟨_, rfl, Nat.zero_le _, [], [], _, upd_same, mup_same, .nil, gb, o1.grow gb jb, p0⟩, ?_⟩
  rintro i m H2 ⟨rfl, hi, av, acc, μ2, e1, e2, l2, g2, o2, p2⟩
  by_cases hl : i < xs.length
  · obtain ⟨go, yl⟩ := I.step i μ2 H2 hl g2 o2.j (psrc _ _ _ p2)
    refine .inr ⟨go, fun H' => ∃ av acc μ2, H' E = some (.lst av) ∧ μ2 E = some .hid ∧ DaL K μ2 H' av acc ∧ Gr μ1 H1 μ2 H' ∧ Okd K μ2 H' (L2.wipe σ (own.map (·.2))) (wipeD ρ (own.map (·.2))) ∧ Pv (i + 1) acc μ2, fun H' h => ⟨xs.length - (i + 1), by omega, rfl, hl, h⟩, fun x H' y => ?_⟩
    obtain ⟨d, ed, g3, j3, h3⟩ := yl x H' y
    have o3 := o2.grow g3 j3
    have b3 := g3.hid E _ e2 e1
    refine ⟨d, _, μ2, _, o3, h3, pt i d acc μ2 ed p2, fun σ4 H4 ρ4 μ4 g4 o4 w4 q4 => ?_⟩
    have b4 := g4.hid E _ b3.1 b3.2
    refine ⟨?_, ρ4, μ4, _, o4, q4, fun b H5 μ5 g5 j5 q5 => ?_⟩
    · rw [w4]
      have idem : ∀ (vs : List Nat), L2.wipe (L2.wipe σ vs) vs = L2.wipe σ vs := by
        intro vs
        have key : ∀ (ws : List Nat) (τ : L2.St), (∀ v ∈ ws, v ∈ vs) → L2.wipe (L2.wipe τ ws) vs = L2.wipe τ vs := by
          intro ws
          induction ws with
          | nil => intro τ _; rfl
          | cons a r ih =>
            intro τ hv
            show L2.wipe ((L2.wipe τ r).set a none) vs = _
            rw [wipe_set (hv a List.mem_cons_self)]
            exact ih τ fun v hm => hv v (List.mem_cons_of_mem _ hm)
        exact key vs σ fun v h => h
      exact idem _
    have b5 := g5.hid E _ b4.1 b4.2
    have o5 := ((o3.grow g4 o4.j).grow g5 j5)
    have gall : Gr μ1 H1 μ5 H5 := ((g2.trans g3).trans g4).trans g5
    cases b with
    | false => exact iteF ⟨av, acc, μ5, b5.2, b5.1, ((l2.grow g3).grow g4).grow g5, gall, o5, by simpa using q5⟩
    | true =>
      refine iteT ⟨ρ4, μ5, _, o4.grow g5 j5, by simpa using q5, fun v dv H6 μ6 g6 j6 h6 q6 => ?_⟩
      have b6 := g6.hid E _ b5.1 b5.2
      have l6 := (((l2.grow g3).grow g4).grow g5).grow g6
      have n6 : μ6 E ≠ none := by rw [b6.1]; simp
      refine ⟨av, b6.2, by rw [l6.length]; exact q6.1, av ++ [v], acc ++ [dv], μ6, upd_same, b6.1, ?_, (gall.trans g6).over nE, (o5.grow g6 j6).over b6.1, q6.2⟩
      exact (l6.append (.cons h6 .nil)).over n6
  · have e : i = xs.length := by omega
    subst e
    refine .inl ⟨I.fin μ2 H2 g2 o2.j (psrc _ _ _ p2), ?_⟩
    exact k _ _ _ _ (g1.trans (g2.del nE nE')) o2.j.del (.lst mdel_same e1 (l2.del E)) (pe _ _ p2)
theorem pd_lc {elt tg iter : Expr} {ifs : List Expr} {scope : Scope} (own : List (Str × Nat)) {ti : DI} {g : DG} {tt : DT} {te : DE} (hc : X.calm = true) (hN : X.N.Nodup) (hi : PDI X tg iter ti) (ok : BlkOk X.N X.env.scope scope own)
    (hg : ∀ (s : Shared) (H : Hp) (C : Addr) (cl : List (Str × Addr)) (fp : List Addr), PCG (X.blk s H scope (compEnvC scope cl C X.env) fp) (own.map (·.2)) tg g) (ht : ∀ (s : Shared) (H : Hp) (C : Addr) (cl : List (Str × Addr)) (fp : List Addr), PDTs (X.blk s H scope (compEnvC scope cl C X.env) fp) ifs tt)
    (he : ∀ (s : Shared) (H : Hp) (C : Addr) (cl : List (Str × Addr)) (fp : List Addr), PD (X.blk s H scope (compEnvC scope cl C X.env) fp) elt te) (hs : ∀ x, foldedSetIterable iter X.env x = pure x := by intro _; rfl) :
    PD X (.ListComp elt [⟨tg, iter, ifs, 0⟩] scope pos) (dLc ti g tt te (own.map (·.2))) := by
  obtain ⟨wi, pi, fi⟩ := hi.ex
  exact ⟨_, pe_lc (g := canG X.K (own.map (·.2)) g) (tt := canT X.K tt) (te := canE X.K te) hc hN pi ok (fun s H C cl fp => (hg s H C cl fp).ok) (fun s H C cl fp => (ht s H C cl fp).ok) (fun s H C cl fp => (he s H C cl fp).can) hs, @fun σ H ρ μ Q Qd o t k => lc_read fi o t k⟩
/-- x = [..] -/
theorem ds_setLc {i : Nat} {y : Str} {py spos : Pos} {elt tg iter : Expr} {ifs : List Expr} {scope : Scope} (own : List (Str × Nat)) {ti : DI} {g : DG} {tt : DT} {te : DE} (hc : X.calm = true) (hN : X.N.Nodup) (hi : PDI X tg iter ti) (ok : BlkOk X.N X.env.scope scope own)
    (hg : ∀ (s : Shared) (H : Hp) (C : Addr) (cl : List (Str × Addr)) (fp : List Addr), PCG (X.blk s H scope (compEnvC scope cl C X.env) fp) (own.map (·.2)) tg g) (ht : ∀ (s : Shared) (H : Hp) (C : Addr) (cl : List (Str × Addr)) (fp : List Addr), PDTs (X.blk s H scope (compEnvC scope cl C X.env) fp) ifs tt)
    (he : ∀ (s : Shared) (H : Hp) (C : Addr) (cl : List (Str × Addr)) (fp : List Addr), PD (X.blk s H scope (compEnvC scope cl C X.env) fp) elt te) (hy : X.N[i]? = some y := by rfl) (hyl : X.env.scope.names.lookup y = some .local := by rfl)
    (hsw : swapsWith (.ListComp elt [⟨tg, iter, ifs, 0⟩] scope pos) (some (.Name y py)) spos.line X.env = pure true := by exact sw_true rfl rfl rfl rfl) (hs : ∀ x, foldedSetIterable iter X.env x = pure x := by intro _; rfl) :
    PDS X (.Assign [.Name y py] (.ListComp elt [⟨tg, iter, ifs, 0⟩] scope pos) spos) (dAsg (dLc ti g tt te (own.map (·.2))) (dName i)) := by
  obtain ⟨wi, pi, fi⟩ := hi.ex
  refine ⟨_, ps_setLc (g := canG X.K (own.map (·.2)) g) (tt := canT X.K tt) (te := canE X.K te) hc hN hy hyl hsw pi ok (fun s H C cl fp => (hg s H C cl fp).ok) (fun s H C cl fp => (ht s H C cl fp).ok) (fun s H C cl fp => (he s H C cl fp).can) hs, @fun σ H ρ μ D Dd o t k => ?_⟩
  exact lc_read fi o t fun x dx H1 μ1 g1 j1 h1 t1 => k.nx _ _ _ _ g1 ((o.grow g1 j1).set i h1) t1
end
theorem mdel_mup {μ : Mu} {a : Addr} {u : Ob} (n : μ a = none) : mdel (mup μ a u) a = μ := by
  funext b
  unfold mdel mup
  split
  · rename_i e; rw [e, n]
  · rfl
end Dl

/-! isinstance, truth, texts, numbers; operators of own classes. -/
namespace Dl
open PySem PySem.Spec PyProof.Rows L2
theorem vw_inv {μ : Mu} {d e : D} (h : vw μ d = e) (hl : ∀ xs, e ≠ .lst xs) : d = e := by
  cases d with
  | ref a =>
    unfold vw at h
    simp only at h
    split at h
    · exact absurd h.symm (hl _)
    · exact h
  | _ => exact h
/-! ### types -/
inductive Ty where
  | non | bl | int | str | lst | tup | dct | own (C : Addr)
def Ty.val : Ty → Value
  | .non => .type "NoneType" | .bl => .type "bool" | .int => .type "int" | .str => .type "str" | .lst => .type "list" | .tup => .type "tuple" | .dct => .type "dict" | .own C => .ref C
def tyD (μ : Mu) : D → Option Ty
  | .non => some .non | .bl _ => some .bl | .int _ => some .int | .str _ => some .str | .lst _ => some .lst | .sq _ => some .lst | .tup _ => some .tup | .obj C _ => some (.own C)
  | .ref a => match μ a with
    | some (.lst _) => some .lst
    | some (.dK _) => some .dct
    | some (.ins C _) => some (.own C)
    | _ => none
  | .ty _ => none
/-- what isinstance asks of an own class -/
structure OwnTy (K : PySem.W.Frag) (C : Addr) : Prop where
  cl : Cls K C
  ha : PySem.W.findIn K (.ref C) "__class__" = some (some (.builtin "object.__class__"))
  hn : PySem.W.specialIn K (.builtin "object.__class__") "__get__" = some (some (.builtin "getset_descriptor.__get__"))
  tk : PySem.W.takesIn K (.builtin "object.__class__") = some true
  mo : PySem.W.mroIn K C (.type "object") = some true
section
variable {K : PySem.W.Frag} {μ : Mu} {H : Hp} {v : V} {d : D} {T : Ty}
theorem Da.tyx (j : J K μ H) (h : Da K μ H v d) (e : tyD μ d = some T) (own : ∀ C, T = .own C → OwnTy K C) : TyX K H v T.val := by
  cases d with
  | non => cases h; cases e; exact .base .non
  | bl b => cases h; cases e; exact .base (.bl b)
  | int i => cases h; cases e; exact .base (.int i)
  | str x => cases h; cases e; exact .base (.str x)
  | ty n => cases e
  | lst xs => cases h with | lst n q l => cases e; exact .base (.lst q)
  | sq xs =>
    cases h with | sq q l =>
    cases e
    rcases q with ⟨_, q | ⟨o, q⟩⟩ | ⟨o, its, n, k1, k2, _⟩
    · exact .base (.lst q)
    · exact .base (.frz q)
    · exact .kList k1 k2
  | tup xs =>
    cases h with | tup q l =>
    cases e
    rcases q with ⟨_, q | ⟨o, q⟩⟩ | ⟨o, its, n, k1, k2, _⟩
    · exact .base (.tup q)
    · exact .fTuple q
    · exact .kTuple k1 k2
  | obj C fs =>
    cases h with | obj n q l =>
    cases e
    have o := own C rfl
    exact .base (.ins q o.cl o.ha o.hn o.tk o.mo)
  | ref a =>
    cases h
    unfold tyD at e
    simp only at e
    split at e
    · rename_i q; cases e; obtain ⟨vs, e1, _⟩ := j a _ q; exact .base (.lst e1)
    · rename_i q; cases e; obtain ⟨vs, e1, _⟩ := j a _ q; exact .base (.dK e1)
    · rename_i C fs q
      cases e
      obtain ⟨dx, fv, e1, _⟩ := j a _ q
      have o := own _ rfl
      exact .base (.ins e1 o.cl o.ha o.hn o.tk o.mo)
    · cases e
end
/-- what isinstance answers, by the type -/
def ansB (k : Ty) (own : Addr → Option Bool) : Ty → Option Bool
  | .own C => own C
  | .non => some (match k with | .non => true | _ => false)
  | .bl => some (match k with | .bl => true | .int => true | _ => false)
  | .int => some (match k with | .int => true | _ => false)
  | .str => some (match k with | .str => true | _ => false)
  | .lst => some (match k with | .lst => true | _ => false)
  | .tup => some (match k with | .tup => true | _ => false)
  | .dct => some (match k with | .dct => true | _ => false)
def ansO (own : Addr → Option Bool) : Ty → Option Bool
  | .own C => own C
  | _ => some false
structure IsA (K : PySem.W.Frag) (c : Value) (ans : Ty → Option Bool) : Prop where
  one : ∀ t b, ans t = some b → PySem.W.kitOne K t.val c = some b
  own : ∀ C b, ans (.own C) = some b → OwnTy K C
theorem isA_b {K : PySem.W.Frag} (k : Ty) (hk : ∀ C, k ≠ .own C) : IsA K k.val (ansB k fun _ => none) where
  one := fun t b e => by
    cases k with
    | own C => exact absurd rfl (hk C)
    | _ => cases t <;> first | (cases e; kernel_rfl) | (cases e; decide +kernel) | cases e
  own := fun C b e => by cases e
theorem isA_o {K : PySem.W.Frag} {C : Addr} {own : Addr → Option Bool} (hc : ((PySem.W.clsIn K C).isSome && PySem.W.typeIn K (.ref C) == some (.type "type")) = true) (h : ∀ C' b, own C' = some b → PySem.W.kitOne K (.ref C') (.ref C) = some b ∧ OwnTy K C') : IsA K (.ref C) (ansO own) where
  one := fun t b e => by
    have k : ∀ T : String, (PySem.fastBuiltinMro T).map (·.contains (Value.ref C)) = some false → PySem.W.kitOne K (.type T) (.ref C) = some false := fun T q => by
      unfold PySem.W.kitOne PySem.W.kitCls
      rw [if_neg (by simp)]
      simp only [hc, if_true]
      exact q
    cases t with
    | own C' => exact (h C' b e).1
    | _ => cases e; exact k _ (by first | rfl | kernel_rfl | decide +kernel)
  own := fun C' b e => (h C' b e).2
section
variable {X : Cx} {K : PySem.W.Frag} {a b e o : Expr} {es : List Expr} {ta tb te to : DE} {tA : DA} {pos p apos : Pos} {k j : Nat}
def gIsi (ans : Ty → Option Bool) (c : D) : List D → Mu → DQ → Prop := fun ds μ Q => match ds with
  | [x, y] => y = c ∧ ∃ t z, tyD μ x = some t ∧ ans t = some z ∧ Q (.bl z) μ
  | _ => False
theorem DaL.two' {μ : Mu} {H : Hp} {vs : List V} {x y : D} (h : DaL K μ H vs [x, y]) : ∃ v w, vs = [v, w] ∧ Da K μ H v x ∧ Da K μ H w y := by
  cases h with | cons h1 l =>
  cases l with | cons h2 l =>
  cases l
  exact ⟨_, _, rfl, h1, h2⟩
theorem pd_isi {ans : Ty → Option Bool} {c : D} {u : Value} (ia : IsA X.K u ans) (hc : ∀ {μ : Mu} {H : Hp} {w : V}, Da X.K μ H w c → ClsV w u) (hm : X.mg "isinstance" = none) (ha : PDA X (e :: es) tA) (hg : Gl X "isinstance" := by rfl)
    (he : starEach (e :: es) X.env = (false, eval e X.env) :: starEach es X.env := by rfl) (hpl : (backTo pos (starEach es X.env)).any (·.1) = false := by rfl) : PD X (.Call (.Name "isinstance" p) (e :: es) [] pos) (dCB (gIsi ans c) tA) := by
  refine pd_b call_isi (@fun xs ds H μ Q Qd jj h g kk => ?_) hm (by decide +kernel) ha hg (by decide) (by decide) he hpl
  unfold gIsi at g
  split at g
  · obtain ⟨v, w, rfl, h1, h2⟩ := h.two'
    obtain ⟨rfl, t, z, e1, e2, q⟩ := g
    exact ⟨v, w, t.val, u, z, rfl, hc h2, h1.tyx jj e1 (fun C hC => ia.own C z (hC ▸ e2)), ia.one t z e2, kk.now jj (.bl z) q⟩
  · exact g.elim
theorem clsv_ty {μ : Mu} {H : Hp} {w : V} {n : String} (h : Da K μ H w (.ty n)) : ClsV w (.type n) := by cases h; exact .ty n
theorem clsv_own {μ : Mu} {H : Hp} {w : V} {C : Addr} (h : Da K μ H w (.ref C)) : ClsV w (.ref C) := by cases h; exact .own C
/-- a built-in type by its name -/
theorem pd_tyname {x : Str} {n : String} (hm : X.mg x = none) (hv : bootBuiltins x = some (.type n)) (hg : Gl X x := by rfl) (hn : x ≠ "__name__" := by decide) (hdb : (x == ("__debug__" : Str)) = false := by decide) : PD X (.Name x pos) (dC (.ty n)) :=
  pd_k (pe_bltn (v := .ty n) hg hm hv rfl hn hdb) fun _ _ => .ty n

/-! ### truth -/
def TruD (μ : Mu) (d : D) (k : Bool) : Prop := match vw μ d with
  | .non => k = false
  | .bl b => k = b
  | .int i => k = (i != 0)
  | .str y => y.length ≤ sizeLine ∧ k = ((y.length : Int) != 0)
  | .lst xs => k = !xs.isEmpty
  | .sq xs => k = !xs.isEmpty
  | .tup xs => k = !xs.isEmpty
  | _ => False
theorem isEmpty_len {α β : Type} {xs : List α} {ys : List β} (h : xs.length = ys.length) : xs.isEmpty = ys.isEmpty := by
  cases xs <;> cases ys <;> simp_all
theorem Da.tru {μ : Mu} {H : Hp} {v : V} {d : D} {z : Bool} (jj : J K μ H) (h : Da K μ H v d) (t : TruD μ d z) : TruV K v H z := by
  unfold TruD at t
  split at t
  · rename_i q
    rw [vw_inv q (fun _ z => nomatch z)] at h
    cases h; exact t
  · rename_i q
    rw [vw_inv q (fun _ z => nomatch z)] at h
    cases h; exact t
  · rename_i q
    rw [vw_inv q (fun _ z => nomatch z)] at h
    cases h; exact t
  · rename_i q
    have := h.nowStr q
    subst this
    exact t
  · rename_i q
    obtain ⟨a, vs, rfl, ea, l⟩ := h.nowL jj q
    exact .inl ⟨vs, SqL.of ea, by rw [isEmpty_len l.length]; exact t⟩
  · rename_i q
    obtain ⟨a, vs, rfl, ea, l⟩ := h.nowS jj q
    exact .inl ⟨vs, ea, by rw [isEmpty_len l.length]; exact t⟩
  · rename_i q
    obtain ⟨a, vs, rfl, ea, l⟩ := h.nowT jj q
    exact .inr (.inl ⟨vs, ea, by rw [isEmpty_len l.length]; exact t⟩)
  · exact t.elim
def dOrV (ta tb : DE) : DE := fun ρ μ Q => ta ρ μ fun x μ1 => ∃ z, TruD μ1 x z ∧ if z = true then Q x μ1 else tb ρ μ1 Q
theorem pd_orV {rest : List Expr} (ha : PD X a ta) (hb : PD X (.BoolOp .Or (b :: rest) pos) tb) : PD X (.BoolOp .Or (a :: b :: rest) pos) (dOrV ta tb) := by
  obtain ⟨ea, pa, fa⟩ := ha.ex
  obtain ⟨eb, pb, fb⟩ := hb.ex
  refine ⟨_, pe_orT pa pb, @fun σ H ρ μ Q Qd o t kk => ?_⟩
  refine fa o t fun x dx H1 μ1 g1 j1 h1 t1 => ?_
  obtain ⟨z, tz, t1⟩ := t1
  refine ⟨z, h1.tru j1 tz, ?_⟩
  cases z with
  | true => exact iteT ((kk.after g1).now j1 h1 (by simpa using t1))
  | false => exact iteF (fb (o.grow g1 j1) (by simpa using t1) (kk.after g1))
/-- a value as a test -/
def dTru (te : DE) : DT := fun ρ μ Q => te ρ μ fun x μ1 => ∃ z, TruD μ1 x z ∧ Q z μ1
theorem pt_tru (h : PD X e te) (he : ∀ whole, isTrue e X.env whole = (do let v ← whole; standAt e.pos; holding [v] (truthy v)) := by intro _; rfl) : PDT X e (dTru te) := by
  obtain ⟨ea, pa, fa⟩ := h.ex
  refine ⟨_, pt_truth pa he, @fun σ H ρ μ Q Qd o t kk => ?_⟩
  refine fa o t fun x dx H1 μ1 g1 j1 h1 t1 => ?_
  obtain ⟨z, tz, t1⟩ := t1
  exact ⟨z, h1.tru j1 tz, kk z _ _ g1 j1 t1⟩

/-! ### numbers, texts -/
def gAbs : List D → Mu → DQ → Prop := fun ds μ Q => match ds with
  | [.int i] => Q (.int (if i < 0 then -i else i)) μ
  | _ => False
theorem pd_abs (hm : X.mg "abs" = none) (ha : PD X a ta) (hg : Gl X "abs" := by rfl) (hs : starEach [a] X.env = (false, eval a X.env) :: starEach [] X.env := by rfl) : PD X (.Call (.Name "abs" p) [a] [] pos) (dCB gAbs (dCons ta dNil)) := by
  refine pd_b call_abs (@fun xs ds H μ Q Qd jj h g kk => ?_) hm (by decide +kernel) (pda_cons ha pda_nil hs) hg (by decide) (by decide) hs rfl
  unfold gAbs at g
  split at g
  · obtain ⟨v, rfl, hv⟩ := h.one
    cases hv
    exact ⟨_, rfl, kk.now jj (.int _) g⟩
  · exact g.elim
/-- // by any number that is not too long -/
def gDivA : G2 := gI (fun _ j => j ≠ 0 ∧ j.natAbs.log2 < 9000) fun i j => .int (Int.fdiv i j)
theorem op_divA : OpR X (binaryOp .FloorDiv) (rI (fun _ j => j ≠ 0 ∧ j.natAbs.log2 < 9000) fun i j => .int (Int.fdiv i j)) := opI fun i j _ _ _ _ _ hc q => floordiv_int hc.1 q (.inl (PyProof.noPylong_of_log2 hc.2))
theorem pd_divA (ha : PD X a ta) (hb : PD X b tb) : PD X (.BinOp a .FloorDiv b pos) (dOp gDivA ta tb) := pd_op op_divA (lf_I fun _ _ => .int _) ha hb
def gMulW : G2 := gI CMulW fun i j => .int (i * j)
theorem pd_mulW (ha : PD X a ta) (hb : PD X b tb) : PD X (.BinOp a .Mult b pos) (dOp gMulW ta tb) := pd_op op_mulW (lf_I fun _ _ => .int _) ha hb
def gStrI : List D → Mu → DQ → Prop := fun ds μ Q => match ds with
  | [.int i] => i.natAbs.log2 < 1920 ∧ Q (.str (toString i)) μ
  | _ => False
theorem pd_strI (hm : X.mg "str" = none) (ha : PD X a ta) (hg : Gl X "str" := by rfl) (hs : starEach [a] X.env = (false, eval a X.env) :: starEach [] X.env := by rfl) : PD X (.Call (.Name "str" p) [a] [] pos) (dCB gStrI (dCons ta dNil)) := by
  refine pd_ty call_str_int (@fun xs ds H μ Q Qd jj h g kk => ?_) hm (by decide +kernel) (pda_cons ha pda_nil hs) hg (by decide) (by decide) hs rfl
  unfold gStrI at g
  split at g
  · obtain ⟨v, rfl, hv⟩ := h.one
    cases hv
    exact ⟨_, rfl, g.1, kk.now jj (.str _) g.2⟩
  · exact g.elim
def gBoolI : List D → Mu → DQ → Prop := fun ds μ Q => match ds with
  | [.int i] => Q (.bl (i != 0)) μ
  | [.bl z] => Q (.bl z) μ
  | _ => False
theorem pd_boolI (hm : X.mg "bool" = none) (ha : PD X a ta) (hg : Gl X "bool" := by rfl) (hs : starEach [a] X.env = (false, eval a X.env) :: starEach [] X.env := by rfl) : PD X (.Call (.Name "bool" p) [a] [] pos) (dCB gBoolI (dCons ta dNil)) := by
  refine pd_ty call_bool1 (@fun xs ds H μ Q Qd jj h g kk => ?_) hm (by decide +kernel) (pda_cons ha pda_nil hs) hg (by decide) (by decide) hs rfl
  unfold gBoolI at g
  split at g
  · obtain ⟨v, rfl, hv⟩ := h.one
    cases hv
    exact .inl ⟨_, rfl, kk.now jj (.bl _) g⟩
  · obtain ⟨v, rfl, hv⟩ := h.one
    cases hv
    exact .inr ⟨_, rfl, kk.now jj (.bl _) g⟩
  · exact g.elim
def gTuple : List D → Mu → DQ → Prop := fun ds μ Q => match ds with
  | [d] => match vw μ d with
    | .lst xs => Q (.tup xs) μ
    | .sq xs => Q (.tup xs) μ
    | .tup xs => Q (.tup xs) μ
    | _ => False
  | _ => False
theorem pd_tuple (hm : X.mg "tuple" = none) (ha : PD X a ta) (hg : Gl X "tuple" := by rfl) (hs : starEach [a] X.env = (false, eval a X.env) :: starEach [] X.env := by rfl) : PD X (.Call (.Name "tuple" p) [a] [] pos) (dCB gTuple (dCons ta dNil)) := by
  refine pd_ty call_tuple_of (@fun xs ds H μ Q Qd jj h g kk => ?_) hm (by decide +kernel) (pda_cons ha pda_nil hs) hg (by decide) (by decide) hs rfl
  unfold gTuple at g
  split at g
  · obtain ⟨v, rfl, hv⟩ := h.one
    split at g
    · rename_i q
      obtain ⟨a, vs, rfl, ea, l⟩ := hv.nowL jj q
      exact ⟨a, vs, rfl, .inl ⟨SqL.of ea, fun p n => kk.new jj n (da_tup jj n l) g⟩⟩
    · rename_i q
      obtain ⟨a, vs, rfl, ea, l⟩ := hv.nowS jj q
      exact ⟨a, vs, rfl, .inl ⟨ea, fun p n => kk.new jj n (da_tup jj n l) g⟩⟩
    · rename_i xs q
      have hd := vw_inv q (fun _ z => nomatch z)
      rw [hd] at hv
      cases hv with | tup e l =>
      exact ⟨_, _, rfl, .inr ⟨Da.sqT e, kk.now jj (.tup e l) g⟩⟩
    · exact g.elim
  · exact g.elim
/-- f-strings -/
def dFmt (te : DE) : DE := fun ρ μ Q => te ρ μ fun x μ1 => match x with
  | .str y => y.length ≤ sizeLine ∧ Q (.str y) μ1
  | .int i => i.natAbs.log2 < 1920 ∧ Q (.str (toString i)) μ1
  | _ => False
theorem pd_fmt (h : PD X e te) : PD X (.FormattedValue e (-1) none pos) (dFmt te) := by
  obtain ⟨ea, pa, fa⟩ := h.ex
  refine ⟨_, pe_fmt pa, @fun σ H ρ μ Q Qd o t kk => ?_⟩
  refine fa o t fun x dx H1 μ1 g1 j1 h1 t1 => ?_
  split at t1
  · cases h1; exact .inl ⟨_, rfl, t1.1, (kk.after g1).now j1 (.str _) t1.2⟩
  · cases h1; exact .inr ⟨_, rfl, t1.1, (kk.after g1).now j1 (.str _) t1.2⟩
  · exact t1.elim
inductive PDJ (X : Cx) : List Expr → List DE → Prop where
  | nil : PDJ X [] []
  | cons {e : Expr} {t : DE} {es : List Expr} {ts : List DE} (h : PD X e t) (r : PDJ X es ts) : PDJ X (e :: es) (t :: ts)
def dJs : List DE → Str → Ro → Mu → (Str → Mu → Prop) → Prop
  | [], acc, _, μ, Q => Q acc μ
  | t :: ts, acc, ρ, μ, Q => t ρ μ fun x μ1 => match x with
    | .str y => (acc ++ y).length ≤ sizeLine ∧ dJs ts (acc ++ y) ρ μ1 Q
    | _ => False
theorem pdj_run {es : List Expr} {ts : List DE} (h : PDJ X es ts) : ∃ us, PJ X es us ∧ ∀ {acc : Str} {σ : L2.St} {H : Hp} {ρ : Ro} {μ : Mu} {Q : Str → Hp → Prop} {Qd : Str → Mu → Prop}, Okd X.K μ H σ ρ → dJs ts acc ρ μ Qd → (∀ out H' μ', Gr μ H μ' H' → J X.K μ' H' → Qd out μ' → Q out H') → tJs us acc σ H Q := by
  induction h with
  | nil => exact ⟨_, .nil, @fun acc σ H ρ μ Q Qd o t kk => kk acc H μ Gr.refl o.j t⟩
  | cons h r ih =>
    obtain ⟨ea, pa, fa⟩ := h.ex
    obtain ⟨us, pj, f⟩ := ih
    refine ⟨_, .cons pa pj, @fun acc σ H ρ μ Q Qd o t kk => ?_⟩
    refine fa o t fun x dx H1 μ1 g1 j1 h1 t1 => ?_
    split at t1
    · cases h1
      exact ⟨_, rfl, t1.1, f (o.grow g1 j1) t1.2 fun out H' μ' g' j' q' => kk out H' μ' (g1.trans g') j' q'⟩
    · exact t1.elim
def dJoin (ts : List DE) : DE := fun ρ μ Q => dJs ts Str.empty ρ μ fun out μ1 => Q (.str out) μ1
theorem pd_joined {v1 v2 : Expr} {rest : List Expr} {ts : List DE} (h : PDJ X (v1 :: v2 :: rest) ts) : PD X (.JoinedStr (v1 :: v2 :: rest) pos) (dJoin ts) := by
  obtain ⟨us, pj, f⟩ := pdj_run h
  exact ⟨_, pe_joined pj, @fun σ H ρ μ Q Qd o t kk => f o t fun out H' μ' g' j' q' => kk _ _ _ _ g' j' (.str out) q'⟩
theorem pd_joined1 (h : PD X e te) : PD X (.JoinedStr [e] pos) te := by
  obtain ⟨ea, pa, fa⟩ := h.ex
  exact ⟨_, pe_joined1 pa, @fun σ H ρ μ Q Qd o t kk => fa o t kk⟩
end
end Dl

/-! Operators of own classes: a + b, a == b, a != b, a in o, o[i], len(o), bool(o), str(o). -/
namespace PySem.W
open PySem PySem.Calls PyProof.Rows Builtin
section
variable {prog : Program} {w : World} {A : Around} {E : Value → Shared → Prop} {s : Shared} {K : Frag} {x C f : Addr} {ox : Obj} {od : Option Obj} {b tb : Value}
/-- != of an own class that has == alone -/
theorem dl_ne {Q : Value → Shared → Prop} (hu : A.units + 1 < cLine) (X : K.In s.heap) (I : InstAt s.heap x ox C od) (hb : Looks (model prog w) s.heap (typeOf b) tb) (hn : notFirst K C tb = true)
    (hne : findIn K (.ref C) "__ne__" = some (some (.builtin "object.__ne__"))) (hm : mroIn K C (.type "object") = some true) (hs : findIn K (.ref C) "__eq__" = some (some (.ref f))) (hf : isFn K (.ref f) = true)
    (h : wpAny (model prog w) A.in1 (call (.ref f) [.ref x, b]) (fun v s' => ∃ z, v = .bool z ∧ Q (.bool (!z)) s') E s) : wpAny (model prog w) A (richCompare .NotEq (.ref x) b) Q E s := by
  have entry : wpAny (model prog w) A.in1 (Builtin.«object.__ne__» ⟨[.ref x, b], []⟩) (fun fin s' => match fin with | .done (.ret v) => Q v s' ∧ v ≠ .notImplemented | _ => False) E s := by
    unfold Builtin.«object.__ne__»
    refine wpAny_bind (m := slotArgs "__ne__" 1 _) (wpAny_pure ?_)
    refine wpAny_bind (m := cRoomFor _ _) (wpAny_cRoomFor hu ?_)
    refine wpAny_bind (m := callSpecialIfBound? (.ref x) (Str.ofString "__eq__") [b]) (ifBound_K X I hs hf (wpAny_mono h (fun v s' hv => ?_) fun _ _ e => e))
    obtain ⟨z, rfl, hq⟩ := hv
    exact wpAny_bind (m := truthy (.bool z)) (wpAny_truthy_bool (wpAny_pure ⟨hq, fun q => nomatch q⟩))
  have t2 : Looks (model prog w) s.heap (isInstance (.ref x) (.type "object")) true := I.type.andThen (looks_mroIn X hm)
  have code : codeAny (model prog w) A (.call (.builtin "object.__ne__") ⟨[.ref x, b], []⟩) (fun r s' => match r with | .ok (.ret v) => Q v s' ∧ v ≠ .notImplemented | .ok _ => False | .error e => E e s') s := by
    refine codeAny_call_builtin (by decide +kernel) F.cmpEntry_ne (@check_slot (model prog w) _ _ _ "object.__ne__" "object" "__ne__" (.ref x) [b] [] _ F.cmpKind_ne F.cmpSplit_ne t2 (F.cmpArgs_ne _ _) ?_)
    refine wpAny_mono entry (fun fin s' hq => ?_) fun _ _ e => e
    cases fin with
    | done fl => cases fl <;> first | exact hq | exact hq.elim
    | again c => exact hq.elim
  have one : wpAny (model prog w) A (tryCompare (.ref x) "__ne__" b) (fun r s' => ∃ v, r = some v ∧ Q v s') E s := by
    unfold tryCompare
    simp only [callSpecialIfBound?, bindSpecialIfBound?]
    refine wpAny_bind (wpAny_holding (wpAny_bind (wpAny_bind (wpAny_bind (I.type.here ((looks_findIn X hne).here ?_))))))
    refine wpAny_bind (wpAny_askSetting (wpAny_ite ?_))
    have bd : bindSpecial (.builtin "object.__ne__") (.ref x) = pure (.builtin "object.__ne__", [.ref x]) := F.slot_object_ne.bind (.ref x)
    have fin : wpAny (model prog w) A (call (.builtin "object.__ne__") ([.ref x] ++ [b]) >>= fun v => pure (some v)) (fun r s' => wpAny (model prog w) A (match r with | some .notImplemented => pure none | none => pure none | some v => pure (some v)) (fun r s' => ∃ v, r = some v ∧ Q v s') E s') E s := by
      refine wpAny_bind (wpAny_call (codeAny_mono code fun r s' hr => ?_))
      match r, hr with
      | .error e, hr => exact hr
      | .ok (.ret v), hr =>
        refine wpAny_pure ?_
        cases v <;> first | exact absurd rfl hr.2 | exact wpAny_pure ⟨_, rfl, hr.1⟩
    split
    · exact wpAny_bind (by rw [bd]; exact wpAny_pure (wpAny_pure fin))
    · exact wpAny_tryCatch (wpAny_bind (by rw [bd]; exact wpAny_pure (wpAny_pure fin)))
  unfold richCompare; simp only [oneThing_ref]
  have last : ∀ {k : Option Value → Sem Value}, (∀ v, k (some v) = pure v) → wpAny (model prog w) A (tryCompare (.ref x) "__ne__" b >>= k) Q E s := fun hk => wpAny_bind (wpAny_mono one (fun r s' ⟨v, er, hv⟩ => by rw [er, hk]; exact wpAny_pure hv) fun _ _ y => y)
  refine wpAny_holding (wpAny_bind (wpAny_cRoomFor (by omega) (wpAny_bind (I.type.here (wpAny_bind (hb.here ?_))))))
  split
  · rename_i nq
    have sf : subIn K tb (.ref C) = some false := (Bool.or_eq_true_iff.mp hn).elim (fun y => by rw [beq_iff_eq.mp y] at nq; simp at nq) fun y => beq_iff_eq.mp y
    refine wpAny_bind ((looks_subIn X sf).here ?_)
    simp only [if_false, Bool.false_eq_true]
    exact last fun _ => rfl
  · refine wpAny_bind (wpAny_pure ?_); simp only [if_false, Bool.false_eq_true]
    exact last fun _ => rfl
/-- bool(o) -/
theorem dl_bool {Q : Value → Shared → Prop} (X : K.In s.heap) (I : InstAt s.heap x ox C od) (hs : findIn K (.ref C) "__bool__" = some (some (.ref f))) (hf : isFn K (.ref f) = true)
    (h : wpAny (model prog w) A.in1.in1 (call (.ref f) [.ref x]) (fun v s' => ∃ z, v = .bool z ∧ Q (.bool z) s') E s) : wpAny (model prog w) A (call (.type "bool") [.ref x]) Q E s := by
  refine callType_codes (T := "bool") (Bi := Builtin.«object.__init__») (Q₁ := fun r s₁ => ∃ z, r = .bool z ∧ Q r s₁) PySem.F.called_bool (PySem.F.typeCall_bool_1 _) PySem.F.entry_object_init ?_ ?_
  · refine codeAny_of_tree ?_
    show wpAny _ A.in1.in1 (do checkBuiltinCall "bool.__new__" ⟨[.type "bool", .ref x], []⟩; again (.builtin "bool.__new__" ⟨[.type "bool", .ref x], []⟩)) _ _ s
    refine wpAny_bind (wpAny_of_eq (PySem.F.newCall_bool_1 _) (wpAny_pure ⟨plainId_quiet (by decide +kernel) _, codeAny_builtin PySem.F.entry_bool_new ?_⟩))
    rw [Around.under_plainId (by decide +kernel) ⟨[.type "bool", .ref x], []⟩]
    have tr : wpAny (model prog w) A.in1.in1 (truthy (.ref x)) (fun z s' => Q (.bool z) s') E s := by
      unfold truthy
      refine wpAny_bind (m := callSpecial? (.ref x) (Str.ofString "__bool__")) (special_fn X I hs (beq_iff_eq.mp hf) (wpAny_mono h (fun r s' hr => ?_) fun _ _ y => y))
      obtain ⟨z, rfl, hq⟩ := hr
      exact wpAny_pure hq
    have f1 := F.conv_sub_bool
    unfold Builtin.«bool.__new__»
    repeat (any_goals (first | assumption | (refine wpAny_bind (m := truthy (.ref x)) (wpAny_mono tr (fun z s' hz => ?_) fun _ _ y => y)) | wp_step))
    all_goals first | exact ⟨_, rfl, hz⟩ | exact wpAny_pure ⟨_, rfl, hz⟩ | exact ⟨_, _, rfl, hz⟩ | skip
  · rintro obj s₁ ⟨y, rfl, hq⟩
    exact ⟨rfl, PySem.F.args_object_init_2 _ _, object_init_meets PySem.F.called_bool.init.lookup PySem.F.called_bool.made (by decide) prog w A.in1 _ s₁ ⟨rfl, rfl, hq⟩⟩
end
end PySem.W
namespace Dl
open PySem PySem.Spec PyProof.Rows L2
section
variable {X : Cx} {pins : List (Addr × Obj)} {σ : L2.St} {H : Hp} {s : Shared} {k j : Nat} {f C : Addr} {fd : FuncData} {ps : List Str} {spd : SpD} {A : Around} {E : Value → Shared → Prop} {R : Value → Shared → Prop} {us : List Value} {vs : List V} {μ : Mu} {ds : List D} {d : D} {v : V} {Qd : DQ} {name : Str}
  {a b e : Expr} {ta tb te : DE} {pos p : Pos}
/-- a method that stands behind an operator -/
structure Dun (P : Program) (w : World) (K : PySem.W.Frag) (mg : Str → Option Value) (base : Heap) (C : Addr) (name : Str) (k : Nat) (spd : SpD) : Prop where
  ex : ∃ f fd ps, PySem.W.findIn K (.ref C) name = some (some (.ref f)) ∧ PySem.W.isFn K (.ref f) = true ∧ FnG P w K mg base CX0 k f fd ps (up K spd) ∧ Binds K fd ps []
theorem dun_at (F : FnG X.prog X.w X.K X.mg X.base CX0 k f fd ps (up X.K spd)) (hb : Binds X.K fd ps []) (hgu : A.guards = some []) (hr : Room k A) (I : Inv X pins σ H s) (e0 : Env0 X.prog X.w X.K X.mg X.base A X.stack s H) (hv : Vals vs us) (jj : J X.K μ H) (l : DaL X.K μ H vs ds) (q : spd ds μ Qd)
    (h : ∀ u s', EP X pins σ (KD X.K μ H Qd) u s' → R u s') : wpAny (model X.prog X.w) A (call (.ref f) us) R E s := by
  have hl : us.length = ps.length := hv.length.symm.trans (F.arity (E := E0) ⟨ds, μ, Qd, jj, l, q, ktKD⟩)
  have bt := hb s us I.kIn (by rw [List.append_nil]; exact hl)
  rw [List.append_nil] at bt
  exact run_at (ks := []) (ws := []) F hgu hr I e0 bt hv jj l q h
theorem inst_at {fs : List (Str × D)} (I : Inv X pins σ H s) (jj : J X.K μ H) (h : Da X.K μ H v d) (e1 : oin μ d = some (C, fs)) : ∃ x ox od, v = .ref x ∧ PySem.W.InstAt s.heap x ox C od := by
  obtain ⟨x, dx, fv, rfl, ea, l⟩ := h.ins jj e1
  obtain ⟨mA, O, _⟩ := ins_get I.hok ea
  obtain ⟨od, Jn, _⟩ := O.look
  exact ⟨x, _, _, rfl, Jn⟩
/-- a + b and the like -/
def gDun (C : Addr) (spd : SpD) : G2 := fun x y μ Q => (∃ fs, oin μ x = some (C, fs)) ∧ (∃ fs, oin μ y = some (C, fs)) ∧ spd [x, y] μ Q
theorem op_dun {op : Operator} (Du : Dun X.prog X.w X.K X.mg X.base C (PySem.dunder op.info.2) k spd) (sf : PySem.W.selfFirst X.K C = true) (hr : Room k X.A) (hgu : X.A.guards = some []) : OpR X (binaryOp op) (rG X.K (gDun C spd)) := by
  rintro pins s σ H x y u w Q I rx ry ⟨dx, dy, μ, Qd, jj, hx, hy, ⟨⟨fs, e1⟩, ⟨fs', e2⟩, q⟩, kk⟩
  obtain ⟨f, fd, ps, h1, h2, F, hb⟩ := Du.ex
  obtain ⟨m, Fr⟩ := I.fr
  obtain ⟨ax, ox, od, rfl, Jx⟩ := inst_at I jj hx e1
  obtain ⟨ay, oy, od', rfl, Jy⟩ := inst_at I jj hy e2
  obtain rfl : u = Value.ref ax := rx
  obtain rfl : w = Value.ref ay := ry
  refine PySem.W.binop_K Fr I.ok.mod.kin Jx Jy.type sf h1 h2 (dun_at F hb hgu hr I I.env0 (vs := [.ref ax, .ref ay]) (.cons rfl (.cons rfl .nil)) jj (.cons hx (.cons hy .nil)) q ?_)
  rintro r s' ⟨v, H3, I3, ru, d, μ3, g3, j3, h3, q3⟩
  have fin : EP X pins σ Q r s' := ⟨v, H3, I3, ru, kk _ _ _ _ g3 j3 h3 q3⟩
  cases v <;> first | (obtain ⟨t, rfl⟩ := ru; exact fin) | (have er := ru; simp only [RelV] at er; subst er; exact fin)
theorem pd_dun {op : Operator} (Du : Dun X.prog X.w X.K X.mg X.base C (PySem.dunder op.info.2) k spd) (sf : PySem.W.selfFirst X.K C = true) (hr : Room j X.A) (hgu : X.A.guards = some []) (ha : PD X a ta) (hb : PD X b tb) (hk : k ≤ j := by decide) : PD X (.BinOp a op b pos) (dOp (gDun C spd) ta tb) :=
  pd_op (op_dun Du sf (hr.mono hk) hgu) lf_rG ha hb
/-- which types == asks first: not theirs -/
structure EqAsk (K : PySem.W.Frag) (C : Addr) (ok : Ty → Bool) : Prop where
  nf : ∀ t, ok t = true → PySem.W.notFirst K C t.val = true
  own : ∀ C', ok (.own C') = true → OwnTy K C'
theorem ty_looks {M : Model} {u : Value} {t : Ty} (I : Inv X pins σ H s) (jj : J X.K μ H) (h : Da X.K μ H v d) (r : RelV v u) (e1 : tyD μ d = some t) (own : ∀ C, t = .own C → OwnTy X.K C) : PySem.W.Looks M s.heap (typeOf u) t.val := by
  obtain ⟨P, Z, p, _⟩ := kit_of I r (h.tyx jj e1 own)
  exact Z.ty M _ I.kIn p
def gCmpO (C : Addr) (ok : Ty → Bool) (spd : SpD) : G2 := fun x y μ Q => (∃ fs, oin μ x = some (C, fs)) ∧ (∃ t, tyD μ y = some t ∧ ok t = true) ∧ spd [x, y] μ fun r μ' => ∃ z, r = .bl z ∧ Q (.bl z) μ'
theorem op_eqO {ok : Ty → Bool} (Du : Dun X.prog X.w X.K X.mg X.base C "__eq__" k spd) (ea : EqAsk X.K C ok) (hr : Room k X.A) (hgu : X.A.guards = some []) : OpR X (compareOp .Eq) (rG X.K (gCmpO C ok spd)) := by
  rintro pins s σ H x y u w Q I rx ry ⟨dx, dy, μ, Qd, jj, hx, hy, ⟨⟨fs, e1⟩, ⟨t, e2, e3⟩, q⟩, kk⟩
  obtain ⟨f, fd, ps, h1, h2, F, hb⟩ := Du.ex
  obtain ⟨m, Fr⟩ := I.fr
  obtain ⟨ax, ox, od, rfl, Jx⟩ := inst_at I jj hx e1
  obtain rfl : u = Value.ref ax := rx
  have tl := ty_looks (M := model X.prog X.w) I jj hy ry e2 fun C' hC => ea.own C' (hC ▸ e3)
  show wpAny _ _ (richCompare .Eq (.ref ax) w) _ _ s
  refine PySem.W.cmp_K hr.units0 Fr I.ok.mod.kin Jx tl (ea.nf t e3) h1 h2 (dun_at F hb hgu hr I I.env0 (vs := [.ref ax, y]) (.cons rfl (.cons ry .nil)) jj (.cons hx (.cons hy .nil)) q ?_)
  rintro r s' ⟨v, H3, I3, ru, d, μ3, g3, j3, h3, z, rfl, q3⟩
  cases h3
  cases (show r = Value.bool z from ru)
  exact ⟨.bl z, H3, I3, rfl, kk _ _ _ _ g3 j3 (.bl z) q3⟩
def gCmpN (C : Addr) (ok : Ty → Bool) (spd : SpD) : G2 := fun x y μ Q => (∃ fs, oin μ x = some (C, fs)) ∧ (∃ t, tyD μ y = some t ∧ ok t = true) ∧ spd [x, y] μ fun r μ' => ∃ z, r = .bl z ∧ Q (.bl (!z)) μ'
structure NeObj (K : PySem.W.Frag) (C : Addr) : Prop where
  ne : PySem.W.findIn K (.ref C) "__ne__" = some (some (.builtin "object.__ne__"))
  mo : PySem.W.mroIn K C (.type "object") = some true
theorem op_neO {ok : Ty → Bool} (Du : Dun X.prog X.w X.K X.mg X.base C "__eq__" k spd) (no : NeObj X.K C) (ea : EqAsk X.K C ok) (hr : Room (k + 1) X.A) (hgu : X.A.guards = some []) : OpR X (compareOp .NotEq) (rG X.K (gCmpN C ok spd)) := by
  rintro pins s σ H x y u w Q I rx ry ⟨dx, dy, μ, Qd, jj, hx, hy, ⟨⟨fs, e1⟩, ⟨t, e2, e3⟩, q⟩, kk⟩
  obtain ⟨f, fd, ps, h1, h2, F, hb⟩ := Du.ex
  obtain ⟨ax, ox, od, rfl, Jx⟩ := inst_at I jj hx e1
  obtain rfl : u = Value.ref ax := rx
  have tl := ty_looks (M := model X.prog X.w) I jj hy ry e2 fun C' hC => ea.own C' (hC ▸ e3)
  show wpAny _ _ (richCompare .NotEq (.ref ax) w) _ _ s
  refine PySem.W.dl_ne (by have := hr.units; omega) I.kIn Jx tl (ea.nf t e3) no.ne no.mo h1 h2 (dun_at F hb hgu hr.in1 I I.env0.in1 (vs := [.ref ax, y]) (.cons rfl (.cons ry .nil)) jj (.cons hx (.cons hy .nil)) q ?_)
  rintro r s' ⟨v, H3, I3, ru, d, μ3, g3, j3, h3, z, rfl, q3⟩
  cases h3
  cases (show r = Value.bool z from ru)
  exact ⟨z, rfl, .bl (!z), H3, I3, rfl, kk _ _ _ _ g3 j3 (.bl (!z)) q3⟩
theorem pd_eqO {ok : Ty → Bool} (Du : Dun X.prog X.w X.K X.mg X.base C "__eq__" k spd) (ea : EqAsk X.K C ok) (hr : Room j X.A) (hgu : X.A.guards = some []) (ha : PD X a ta) (hb : PD X b tb) (hk : k ≤ j := by decide) : PD X (.Compare a [.Eq] [b] pos) (dOp (gCmpO C ok spd) ta tb) := pd_cmp (op_eqO Du ea (hr.mono hk) hgu) lf_rG ha hb (nomark _)
theorem pt_eqO {ok : Ty → Bool} (Du : Dun X.prog X.w X.K X.mg X.base C "__eq__" k spd) (ea : EqAsk X.K C ok) (hr : Room j X.A) (hgu : X.A.guards = some []) (ha : PD X a ta) (hb : PD X b tb) (hk : k ≤ j := by decide) : PDT X (.Compare a [.Eq] [b] pos) (dB (dOp (gCmpO C ok spd) ta tb)) := pt_c (op_eqO Du ea (hr.mono hk) hgu) lf_rG ha hb (nomark _)
theorem pd_neO {ok : Ty → Bool} (Du : Dun X.prog X.w X.K X.mg X.base C "__eq__" k spd) (no : NeObj X.K C) (ea : EqAsk X.K C ok) (hr : Room j X.A) (hgu : X.A.guards = some []) (ha : PD X a ta) (hb : PD X b tb) (hk : k + 1 ≤ j := by decide) : PD X (.Compare a [.NotEq] [b] pos) (dOp (gCmpN C ok spd) ta tb) := pd_cmp (op_neO Du no ea (hr.mono hk) hgu) lf_rG ha hb (nomark _)
theorem pt_neO {ok : Ty → Bool} (Du : Dun X.prog X.w X.K X.mg X.base C "__eq__" k spd) (no : NeObj X.K C) (ea : EqAsk X.K C ok) (hr : Room j X.A) (hgu : X.A.guards = some []) (ha : PD X a ta) (hb : PD X b tb) (hk : k + 1 ≤ j := by decide) : PDT X (.Compare a [.NotEq] [b] pos) (dB (dOp (gCmpN C ok spd) ta tb)) := pt_c (op_neO Du no ea (hr.mono hk) hgu) lf_rG ha hb (nomark _)
/-- bool(o), str(o), len(o) -/
def gOne (C : Addr) (spd : SpD) (G : D → Mu → DQ → Prop) : List D → Mu → DQ → Prop := fun ds μ Q => match ds with
  | [x] => (∃ fs, oin μ x = some (C, fs)) ∧ spd [x] μ fun r μ' => G r μ' Q
  | _ => False
def isBl : D → Mu → DQ → Prop := fun r μ Q => ∃ z, r = .bl z ∧ Q r μ
def isStr : D → Mu → DQ → Prop := fun r μ Q => ∃ z, r = .str z ∧ Q r μ
def isLen : D → Mu → DQ → Prop := fun r μ Q => ∃ z, r = .int z ∧ 0 ≤ z ∧ z < 2 ^ 63 ∧ Q r μ
theorem Room.in2 {n : Nat} (hr : Room (n + 1) A) : Room n A.in1.in1 := ⟨hr.hd, by have := hr.dp; show A.depth + 3 * n + 5 < _; omega, by have := hr.un; show A.units + 1 + 1 + 16 * n + 200 < _; omega⟩
theorem call_boolO (Du : Dun X.prog X.w X.K X.mg X.base C "__bool__" k spd) (hr : Room (k + 1) X.A) (hgu : X.A.guards = some []) : CallR X (.type "bool") (rGL X.K (gOne C spd isBl)) := by
  rintro pins s σ H xs us Q I r ⟨ds, μ, Qd, jj, l, q, kk⟩
  unfold gOne at q
  split at q
  · obtain ⟨f, fd, ps, h1, h2, F, hb⟩ := Du.ex
    obtain ⟨v, rfl, hv⟩ := l.one
    obtain ⟨⟨fs, e1⟩, q⟩ := q
    obtain ⟨ax, ox, od, rfl, Jx⟩ := inst_at I jj hv e1
    obtain rfl := Vals.ref1 r
    refine PySem.W.dl_bool I.kIn Jx h1 h2 (dun_at F hb hgu (Room.in2 hr) I I.env0.in1.in1 (vs := [.ref ax]) (.cons rfl .nil) jj (.cons hv .nil) q ?_)
    rintro r s' ⟨v, H3, I3, ru, d, μ3, g3, j3, h3, z, rfl, q3⟩
    cases h3
    cases (show r = Value.bool z from ru)
    exact ⟨z, rfl, .bl z, H3, I3, rfl, kk _ _ _ _ g3 j3 (.bl z) q3⟩
  · exact q.elim
theorem call_strO (Du : Dun X.prog X.w X.K X.mg X.base C "__str__" k spd) (hr : Room (k + 1) X.A) (hgu : X.A.guards = some []) : CallR X (.type "str") (rGL X.K (gOne C spd isStr)) := by
  rintro pins s σ H xs us Q I r ⟨ds, μ, Qd, jj, l, q, kk⟩
  unfold gOne at q
  split at q
  · obtain ⟨f, fd, ps, h1, h2, F, hb⟩ := Du.ex
    obtain ⟨v, rfl, hv⟩ := l.one
    obtain ⟨⟨fs, e1⟩, q⟩ := q
    obtain ⟨ax, ox, od, rfl, Jx⟩ := inst_at I jj hv e1
    obtain rfl := Vals.ref1 r
    refine PySem.W.kso_call (Room.in2 hr).units0 I.kIn Jx h1 h2 (dun_at F hb hgu (Room.in2 hr) I I.env0.in1.in1 (vs := [.ref ax]) (.cons rfl .nil) jj (.cons hv .nil) q ?_)
    rintro r s' ⟨v, H3, I3, ru, d, μ3, g3, j3, h3, z, rfl, q3⟩
    cases h3
    obtain ⟨t, rfl⟩ := (show ∃ t, r = Value.str z t from ru)
    exact ⟨.str z, H3, I3, ⟨_, rfl⟩, kk _ _ _ _ g3 j3 (.str z) q3⟩
  · exact q.elim
theorem call_lenO (Du : Dun X.prog X.w X.K X.mg X.base C "__len__" k spd) (hr : Room (k + 1) X.A) (hgu : X.A.guards = some []) : CallR X (.builtin "len") (rGL X.K (gOne C spd isLen)) := by
  rintro pins s σ H xs us Q I r ⟨ds, μ, Qd, jj, l, q, kk⟩
  unfold gOne at q
  split at q
  · obtain ⟨f, fd, ps, h1, h2, F, hb⟩ := Du.ex
    obtain ⟨v, rfl, hv⟩ := l.one
    obtain ⟨⟨fs, e1⟩, q⟩ := q
    obtain ⟨m, Fr⟩ := I.fr
    obtain ⟨ax, ox, od, rfl, Jx⟩ := inst_at I jj hv e1
    obtain rfl := Vals.ref1 r
    refine PySem.W.len_K Fr I.ok.mod.kin Jx h1 h2 (dun_at F hb hgu hr.in1 I I.env0.in1 (vs := [.ref ax]) (.cons rfl .nil) jj (.cons hv .nil) q ?_)
    rintro r s' ⟨v, H3, I3, ru, d, μ3, g3, j3, h3, z, rfl, z0, z1, q3⟩
    cases h3
    obtain ⟨t, rfl⟩ := (show ∃ t, r = Value.int z t from ru)
    exact ⟨⟨z0, z1⟩, .int z, H3, I3.tok _, ⟨_, rfl⟩, kk _ _ _ _ g3 j3 (.int z) q3⟩
  · exact q.elim
theorem pd_boolO (Du : Dun X.prog X.w X.K X.mg X.base C "__bool__" k spd) (hm : X.mg "bool" = none) (hr : Room j X.A) (hgu : X.A.guards = some []) (ha : PD X a ta) (hk : k + 1 ≤ j := by decide) (hg : Gl X "bool" := by rfl) (hs : starEach [a] X.env = (false, eval a X.env) :: starEach [] X.env := by rfl) :
    PD X (.Call (.Name "bool" p) [a] [] pos) (dCB (gOne C spd isBl) (dCons ta dNil)) := pd_ty (call_boolO Du (hr.mono hk) hgu) lf_rGL hm (by decide +kernel) (pda_cons ha pda_nil hs) hg (by decide) (by decide) hs rfl
theorem pd_strO (Du : Dun X.prog X.w X.K X.mg X.base C "__str__" k spd) (hm : X.mg "str" = none) (hr : Room j X.A) (hgu : X.A.guards = some []) (ha : PD X a ta) (hk : k + 1 ≤ j := by decide) (hg : Gl X "str" := by rfl) (hs : starEach [a] X.env = (false, eval a X.env) :: starEach [] X.env := by rfl) :
    PD X (.Call (.Name "str" p) [a] [] pos) (dCB (gOne C spd isStr) (dCons ta dNil)) := pd_ty (call_strO Du (hr.mono hk) hgu) lf_rGL hm (by decide +kernel) (pda_cons ha pda_nil hs) hg (by decide) (by decide) hs rfl
theorem pd_lenO (Du : Dun X.prog X.w X.K X.mg X.base C "__len__" k spd) (hm : X.mg "len" = none) (hr : Room j X.A) (hgu : X.A.guards = some []) (ha : PD X a ta) (hk : k + 1 ≤ j := by decide) (hg : Gl X "len" := by rfl) (hs : starEach [a] X.env = (false, eval a X.env) :: starEach [] X.env := by rfl) :
    PD X (.Call (.Name "len" p) [a] [] pos) (dCB (gOne C spd isLen) (dCons ta dNil)) := pd_b (call_lenO Du (hr.mono hk) hgu) lf_rGL hm (by decide +kernel) (pda_cons ha pda_nil hs) hg (by decide) (by decide) hs rfl
end
end Dl

/-! Short words: defs with defaults; what is called, by the form of the call. -/
namespace Dl
open PySem PySem.Spec PyProof.Rows L2
section
variable {P : Program} {w : World} {K : PySem.W.Frag} {mg : Str → Option Value} {base : Heap} {k : Nat} {f : Addr} {fd : FuncData} {ps N : List Str} {spd : SpD} {x qual : Str} {st : Stmt} {dvs : List V} {kws : List (Str × V)} {params : Arguments} {dbody : List Stmt} {scope : Scope}
theorem okGD {sp : Sp} (F : FunD K x qual params dbody scope dvs kws f fd) (S : FnScope N ps scope) (ar : ∀ {vs H Q E}, sp vs H Q E → vs.length = ps.length)
    (body : ∀ {cdv : Value} {A : Around} {outer : List Env} {s : Shared} {H : Hp} {vs : List V} {Q : VK} {E : XK}, A.guards = some [] → Room k (A.deeper (envOfC qual scope s.heap.objs.size f cdv)) → sp vs H Q E →
      ∃ t, PSs (cxOf CX0 P w K mg base N qual scope f cdv A outer s H E) dbody t ∧ t { nx := fun _ H' => Q .non H', rt := Q } (start N vs) H) : FnG P w K mg base CX0 (k + 1) f fd ps sp := by
  obtain ⟨oc, od, dV, kV, doc, pm, an, cdv, ct, osl, rfl, lk, hcd, _, _⟩ := F.ex
  refine ⟨ar, @fun A outer s H args us vs Q E hg hr e0 hb hv h => ?_⟩
  have keep : ∀ b o, base.get? b = some o → s.heap.get? b = some o := fun b o q => (e0.bs b o q).1
  obtain ⟨t, ht, hq⟩ := body (cdv := cdv) (outer := outer) (s := s) hg (hr.deeper _) h
  refine Att.call_fn (e0.mod.kin.keeps keep) (e0.mod.nolimit.keeps keep) lk hcd hr.depth hb (kinds_ok S us) (fun s1 ic => ?_) S.co S.gen S.kind
  have I := inv_start (CX := CX0) (E := E) S hr.hd e0 (ar h) hv ic
  refine wpAny_mono (ht.run [] s1 _ H _ I hq) (fun fl s2 h2 => ?_) (fun e s2 h2 => h2)
  cases fl with
  | next => obtain ⟨σ2, H2, I2, q2⟩ := h2; exact ⟨V.non, H2, I2.os, I2.bare, I2.base, I2.hok, rfl, q2⟩
  | ret u => obtain ⟨v2, σ2, H2, I2, r2, q2⟩ := h2; exact ⟨v2, H2, I2.os, I2.bare, I2.base, I2.hok, r2, q2⟩
  | brk => obtain ⟨_, _, _, no⟩ := h2; exact no.elim
  | cont => obtain ⟨_, _, _, no⟩ := h2; exact no.elim
theorem okDD (F : FunD K x qual params dbody scope dvs kws f fd) (S : FnScope N ps scope) (ar : ∀ {ds μ Q}, spd ds μ Q → ds.length = ps.length)
    (body : ∀ (X : Cx), (∃ cdv A outer s H E, X = (cxOf CX0 P w K mg base N qual scope f cdv A outer s H E).nox) → X.A.guards = some [] → Room k X.A → ∃ t, PDSs X dbody t ∧ ∀ {ds μ Q}, spd ds μ Q → t { nx := fun _ μ => Q .non μ, rt := Q } (startD N ds) μ) :
    FnG P w K mg base CX0 (k + 1) f fd ps (up K spd) := by
  refine okGD F S (@fun vs H Q E h => ?_) (@fun cdv A outer s H vs Q E hg hr h => ?_)
  · obtain ⟨ds, μ, Qd, j, l, q, _⟩ := h
    exact l.length.trans (ar q)
  · obtain ⟨ds, μ, Qd, j, l, q, kk⟩ := h
    obtain ⟨t, ht, hq⟩ := body _ ⟨cdv, A, outer, s, H, E, rfl⟩ hg hr
    obtain ⟨ts, p, fn⟩ := ht.ex
    refine ⟨ts, p.nox, fn (start_ok j l) (hq q) ⟨fun σ' H' ρ' μ' g' o' q' => kk _ _ _ _ g' o'.j .non q', kk, fun _ _ _ _ _ _ z => z.elim, fun _ _ _ _ _ _ z => z.elim⟩⟩
theorem funD_mk {oc dV kV doc pm cdv ct : Value} {od an : Option Addr} {osl : Array (Option Value)} (l : K.lookup f = some ⟨oc, od, .func (PySem.W.fnOf x qual (defArgs st) (defBody st) (defScope st) dV kV doc pm an cdv ct), osl⟩) (c : PySem.W.codeIn K cdv qual = true) (kp : PySem.W.keepIn K (.ref f) = true)
    (hD : DflV K dV dvs) (hK : KwdV K kV kws) : FunD K x qual (defArgs st) (defBody st) (defScope st) dvs kws f (PySem.W.fnOf x qual (defArgs st) (defBody st) (defScope st) dV kV doc pm an cdv ct) := ⟨⟨oc, od, dV, kV, doc, pm, an, cdv, ct, osl, rfl, l, c, hD, hK⟩, kp⟩
theorem dfl_mk {T : Addr} {o : Obj} {its : List Value} {n : Nat} (l : K.lookup T = some o) (e : o.data = .seq its.toArray n) (r : Vals dvs its) (h : dvs ≠ []) : DflV K (.ref T) dvs := .inr ⟨h, T, o, its, n, rfl, l, e, r⟩
end
/-- C(..), by the form of the call -/
structure Ctor (P : Program) (w : World) (K : PySem.W.Frag) (mg : Str → Option Value) (base : Heap) (k : Nat) (x : Str) (C : Addr) (spd : SpD) (n : Nat) (ks : List Str) (dd : List D) (ix : List Nat) : Prop where
  ex : ∃ f fd ps, Mk K C f ∧ mg x = some (.ref C) ∧ FnG P w K mg base CX0 k f fd ps (up K spd) ∧ Bnd K fd ps (n + 1) ks dd ix
structure MeC (P : Program) (w : World) (K : PySem.W.Frag) (mg : Str → Option Value) (base : Heap) (k : Nat) (C : Addr) (m : Str) (spd : SpD) (n : Nat) (ks : List Str) (dd : List D) (ix : List Nat) : Prop where
  ex : ∃ f fd ps, Cls K C ∧ Meth K C m f ∧ FnG P w K mg base CX0 k f fd ps (up K spd) ∧ Bnd K fd ps (n + 1) ks dd ix
structure ClB (P : Program) (w : World) (K : PySem.W.Frag) (mg : Str → Option Value) (base : Heap) (k : Nat) (x : Str) (spd : SpD) (n : Nat) (ks : List Str) (dd : List D) (ix : List Nat) : Prop where
  ex : ∃ f fd ps, mg x = some (.ref f) ∧ PySem.W.keepIn K (.ref f) = true ∧ FnG P w K mg base CX0 k f fd ps (up K spd) ∧ Bnd K fd ps n ks dd ix
structure PrC (P : Program) (w : World) (K : PySem.W.Frag) (mg : Str → Option Value) (base : Heap) (k : Nat) (C : Addr) (m : Str) (spd : SpD) : Prop where
  ex : ∃ g f fd ps, Cls K C ∧ PropOf K C m g f ∧ FnG P w K mg base CX0 k f fd ps (up K spd) ∧ Binds K fd ps [] ∧ ps.length = 1
section
variable {X : Cx} {pos p apos : Pos} {o : Expr} {es : List Expr} {kws : List Keyword} {tA : DA} {to : DE} {n k j : Nat} {ks : List Str} {dd : List D} {ix : List Nat} {spd : SpD} {x m : Str} {C : Addr}
theorem pd_mk (c : Ctor X.prog X.w X.K X.mg X.base k x C spd n ks dd ix) (hr : Room j X.A) (hgu : X.A.guards = some []) (ha : PDC X pos es kws n ks tA) (hk : k + 1 ≤ j := by decide) (hg : Gl X x := by rfl) (hdb : (x == ("__debug__" : Str)) = false := by decide) : PD X (.Call (.Name x p) es kws pos) (dMake C spd dd ix tA) := by
  obtain ⟨f, fd, ps, M, nm, F, hb⟩ := c.ex
  exact pd_make M nm F hb hr hgu ha hk hg hdb
theorem pd_mkM (c : Ctor X.prog X.w X.K X.mg X.base k x C spd n ks dd ix) (hr : Room j X.A) (hgu : X.A.guards = some []) (ha : PDC X pos es kws n ks tA) (hk : k + 1 ≤ j := by decide) (hg : Gl X x := by rfl) (hdb : (x == ("__debug__" : Str)) = false := by decide) : PD X (.Call (.Name x p) es kws pos) (dMakeM C spd dd ix tA) := by
  obtain ⟨f, fd, ps, M, nm, F, hb⟩ := c.ex
  exact pd_makeM M nm F hb hr hgu ha hk hg hdb
theorem pd_me {pl : Sem Bool} (c : MeC X.prog X.w X.K X.mg X.base k C m spd n ks dd ix) (hr : Room j X.A) (hgu : X.A.guards = some []) (ho : PD X o to) (ha : PDC X pos es kws n ks tA) (hk : k ≤ j := by decide)
    (ht : eval (.Call (.Attribute o m apos) es kws pos) X.env = (do
      let ov ← eval o X.env
      standAt apos.atName
      let (f, first) ← holding [ov] (getMethod ov m pl)
      callWith pos f first (backTo pos (starEach es X.env)) (backToKw pos (keywordEach kws X.env))) := by rfl) : PD X (.Call (.Attribute o m apos) es kws pos) (dMeth C m spd dd ix to tA) := by
  obtain ⟨f, fd, ps, c, me, F, hb⟩ := c.ex
  exact pd_meth c me F hb hr hgu ho ha hk ht
theorem pd_cb (c : ClB X.prog X.w X.K X.mg X.base k x spd n ks dd ix) (hr : Room j X.A) (hgu : X.A.guards = some []) (ha : PDC X pos es kws n ks tA) (hk : k ≤ j := by decide) (hg : Gl X x := by rfl) (hdb : (x == ("__debug__" : Str)) = false := by decide) : PD X (.Call (.Name x p) es kws pos) (dCallB spd dd ix tA) := by
  obtain ⟨f, fd, ps, nm, kp, F, hb⟩ := c.ex
  exact pd_callB F nm kp hb hr hgu ha hk hg hdb
theorem pd_pr (c : PrC X.prog X.w X.K X.mg X.base k C m spd) (hr : Room j X.A) (hgu : X.A.guards = some []) (ho : PD X o to) (hk : k + 1 ≤ j := by decide) (hab : attributeBase o m X.env (eval o X.env) = eval o X.env := by rfl) : PD X (.Attribute o m pos) (dProp C spd to) := by
  obtain ⟨g, f, fd, ps, c, hp, F, hb, hl⟩ := c.ex
  exact pd_prop c hp F hb hr hgu ho hk hl hab
end
/-! ### small statements -/
section
variable {X : Cx} {pos : Pos}
def dBrk : DS := fun D ρ μ => D.bk ρ μ
def dCnt : DS := fun D ρ μ => D.ct ρ μ
def dRetN : DS := fun D _ μ => D.rt .non μ
theorem ds_pass : PDS X (.Pass pos) dNext := ⟨_, ps_pass, @fun σ H ρ μ D Dd o t k => k.nx _ _ _ _ Gr.refl o t⟩
theorem ds_break : PDS X (.Break pos) dBrk := ⟨_, ps_break, @fun σ H ρ μ D Dd o t k => k.bk _ _ _ _ Gr.refl o t⟩
theorem ds_continue : PDS X (.Continue pos) dCnt := ⟨_, ps_continue, @fun σ H ρ μ D Dd o t k => k.ct _ _ _ _ Gr.refl o t⟩
theorem ds_retN : PDS X (.Return none pos) dRetN := ⟨_, ps_retN, @fun σ H ρ μ D Dd o t k => k.rt _ _ _ _ Gr.refl o.j .non t⟩
end
end Dl

/-! Rows for rewriting, part two. -/
namespace Dl
open PySem PySem.Spec PyProof.Rows L2
section
variable {μ : Mu} {Q : DQ} {i j : Int} {p q : Bool} {x y : Str} {xs ys : List D} {C : Addr} {fs : List (Str × D)} {f : Str} {ans : Ty → Option Bool} {c d : D} {spd : SpD}
theorem gAbs_int : gAbs [.int i] μ Q = Q (.int (if i < 0 then -i else i)) μ := rfl
theorem gDivA_int : gDivA (.int i) (.int j) μ Q = ((j ≠ 0 ∧ j.natAbs.log2 < 9000) ∧ Q (.int (Int.fdiv i j)) μ) := rfl
theorem gMulW_int : gMulW (.int i) (.int j) μ Q = (CMulW i j ∧ Q (.int (i * j)) μ) := rfl
theorem gStrI_int : gStrI [.int i] μ Q = (i.natAbs.log2 < 1920 ∧ Q (.str (toString i)) μ) := rfl
theorem gBoolI_int : gBoolI [.int i] μ Q = Q (.bl (i != 0)) μ := rfl
theorem gBoolI_bl : gBoolI [.bl p] μ Q = Q (.bl p) μ := rfl
theorem gTuple_l : gTuple [.lst xs] μ Q = Q (.tup xs) μ := rfl
theorem gTuple_t : gTuple [.tup xs] μ Q = Q (.tup xs) μ := rfl
theorem gNe_bl : gNe (.bl p) (.bl q) μ Q = Q (.bl (!decide (p = q))) μ := by
  unfold gNe gD CEq
  simp only [vw_bl, pur, py, PyData.plain, dp_bool, PyData.eqv, true_and, Nat.zero_le]
  first | rfl | (rw [Bool.beq_eq_decide_eq])
theorem gAdd_str : gAdd (.str x) (.str y) μ Q = (x.length + y.length ≤ sizeLine ∧ Q (.str (x ++ y)) μ) := rfl
theorem gAdd_t : gAdd (.tup xs) (.tup ys) μ Q = (xs.length + ys.length ≤ sizeLine ∧ Q (.tup (xs ++ ys)) μ) := rfl
theorem gAdd_l : gAdd (.lst xs) (.lst ys) μ Q = (xs.length + ys.length ≤ sizeLine ∧ Q (.lst (xs ++ ys)) μ) := rfl
theorem gEq_nil : gEq (.lst []) (.lst []) μ Q = Q (.bl true) μ := by
  unfold gEq gD CEq
  simp [vw_lst, pur, purL, py, pyL, PyData.plain, PyData.plainAll, PyData.depth, PyData.depthAll, PyData.eqv, PyData.eqvAll]
theorem gNe_nil0 : gNe (.lst []) (.lst []) μ Q = Q (.bl false) μ := by
  unfold gNe gD CEq
  simp [vw_lst, pur, purL, py, pyL, PyData.plain, PyData.plainAll, PyData.depth, PyData.depthAll, PyData.eqv, PyData.eqvAll]
theorem oin_obj : oin μ (.obj C fs) = some (C, fs) := rfl
theorem gFld_obj : gFld C f (.obj C fs) μ Q = (∃ d, fs.lookup f = some d ∧ Q d μ) := by
  unfold gFld
  simp only [oin_obj, Option.some.injEq, Prod.mk.injEq, true_and]
  exact propext ⟨fun ⟨fs', d, e, h⟩ => ⟨d, by rw [e]; exact h.1, h.2⟩, fun ⟨d, h⟩ => ⟨fs, d, rfl, h⟩⟩
theorem gIsi_of {t : Ty} (h : tyD μ d = some t) : gIsi ans c [d, c] μ Q = (∃ z, ans t = some z ∧ Q (.bl z) μ) := by
  unfold gIsi
  simp only [true_and, h, Option.some.injEq]
  exact propext ⟨fun ⟨t', z, e, h⟩ => ⟨z, by rw [e]; exact h.1, h.2⟩, fun ⟨z, h⟩ => ⟨t, z, rfl, h⟩⟩
theorem gIsi_non : gIsi ans c [.non, c] μ Q = (∃ z, ans .non = some z ∧ Q (.bl z) μ) := gIsi_of rfl
theorem gIsi_bl : gIsi ans c [.bl p, c] μ Q = (∃ z, ans .bl = some z ∧ Q (.bl z) μ) := gIsi_of rfl
theorem gIsi_int : gIsi ans c [.int i, c] μ Q = (∃ z, ans .int = some z ∧ Q (.bl z) μ) := gIsi_of rfl
theorem gIsi_str : gIsi ans c [.str x, c] μ Q = (∃ z, ans .str = some z ∧ Q (.bl z) μ) := gIsi_of rfl
theorem gIsi_lst : gIsi ans c [.lst xs, c] μ Q = (∃ z, ans .lst = some z ∧ Q (.bl z) μ) := gIsi_of rfl
theorem gIsi_tup : gIsi ans c [.tup xs, c] μ Q = (∃ z, ans .tup = some z ∧ Q (.bl z) μ) := gIsi_of rfl
theorem gIsi_obj : gIsi ans c [.obj C fs, c] μ Q = (∃ z, ans (.own C) = some z ∧ Q (.bl z) μ) := gIsi_of rfl
theorem ex_some {α : Type} {a : α} {R : α → Prop} : (∃ z, some a = some z ∧ R z) = R a := propext ⟨fun ⟨_, e, h⟩ => by cases e; exact h, fun h => ⟨a, rfl, h⟩⟩
theorem gDun_obj {fs' : List (Str × D)} : gDun C spd (.obj C fs) (.obj C fs') μ Q = spd [.obj C fs, .obj C fs'] μ Q := by
  unfold gDun
  simp only [oin_obj, Option.some.injEq, Prod.mk.injEq, true_and, exists_eq']
theorem gOne_obj {G : D → Mu → DQ → Prop} : gOne C spd G [.obj C fs] μ Q = spd [.obj C fs] μ fun r μ' => G r μ' Q := by
  unfold gOne
  simp only [oin_obj, Option.some.injEq, Prod.mk.injEq, true_and, exists_eq']
theorem isBl_bl : isBl (.bl p) μ Q = Q (.bl p) μ := propext ⟨fun ⟨_, _, h⟩ => h, fun h => ⟨_, rfl, h⟩⟩
theorem isStr_str : isStr (.str x) μ Q = Q (.str x) μ := propext ⟨fun ⟨_, _, h⟩ => h, fun h => ⟨_, rfl, h⟩⟩
theorem ex_bl {R : Bool → Prop} : (∃ z, D.bl p = D.bl z ∧ R z) = R p := propext ⟨fun ⟨_, e, h⟩ => by cases e; exact h, fun h => ⟨p, rfl, h⟩⟩
end
theorem pd_gref {X : Cx} {x : Str} {a : Addr} {pos : Pos} (hm : X.mg x = some (.ref a)) (hg : Gl X x := by rfl) (hdb : (x == ("__debug__" : Str)) = false := by decide) : PD X (.Name x pos) (dC (.ref a)) := pd_glob (v := .ref a) hm rfl (fun _ _ => .ref a) hg hdb
/-! ### repr of small data -/
def Small (B W : Nat) (d : D) : Prop := pur d = true ∧ (py d).showable = true ∧ (py d).depth ≤ 64 ∧ (py d).leavesShort B = true ∧ (py d).weight ≤ W
theorem Small.shows {B W : Nat} {d : D} (h : Small B W d) (hB : 8 ≤ B) (hW : (B + 2) * W + B ≤ 16777216) : Shows d := by
  obtain ⟨h1, h2, h3, h4, h5⟩ := h
  refine ⟨h1, h2, h3, Nat.le_trans (PyData.shown_le B hB _ h4) ?_⟩
  rw [sizeLine_eq]
  exact Nat.le_trans (Nat.add_le_add_right (Nat.mul_le_mul_left _ h5) _) hW
theorem int_short {i : Int} {k : Nat} (hk : 0 < k) (h : i.natAbs.log2 < k) : (PyData.int i).leavesShort (k + 1) = true := by
  unfold PyData.leavesShort PyData.shown
  rw [decide_eq_true_eq]
  have := int_text_length_le hk h
  show (Str.ofString (toString i)).length ≤ _
  rw [PySem.ofString_length]
  exact this
theorem int_weight {i : Int} {k : Nat} (h : i.natAbs.log2 < k) : (PyData.int i).weight ≤ k := by
  unfold PyData.weight
  split <;> omega
end Dl

/-! Rows for walking a derivation from the outside inwards (each is its definition; used as ↓ rows, so that nothing is gone through twice). -/
namespace Dl
open PySem PySem.Spec PyProof.Rows L2
section
variable {t u : DS} {te ta tb to tv ti : DE} {tA tK : DA} {tT tU : DT} {nx bk ct : Ro → Mu → Prop} {rt Q : DQ} {ρ : Ro} {μ : Mu} {g : DG} {gs : DGs} {d x y : D} {ds xs : List D} {R : Ro → Mu → Prop} {QB : Bool → Mu → Prop} {QL : List D → Mu → Prop} {n i j : Nat} {a b c e : D}
theorem s_seq : dSeq t u ⟨nx, rt, bk, ct⟩ ρ μ = t ⟨u ⟨nx, rt, bk, ct⟩, rt, bk, ct⟩ ρ μ := rfl
theorem s_next : dNext ⟨nx, rt, bk, ct⟩ ρ μ = nx ρ μ := rfl
theorem s_brk : dBrk ⟨nx, rt, bk, ct⟩ ρ μ = bk ρ μ := rfl
theorem s_cnt : dCnt ⟨nx, rt, bk, ct⟩ ρ μ = ct ρ μ := rfl
theorem s_retN : dRetN ⟨nx, rt, bk, ct⟩ ρ μ = rt .non μ := rfl
theorem s_ret : dRet te ⟨nx, rt, bk, ct⟩ ρ μ = te ρ μ rt := rfl
theorem s_drop : dDrop te ⟨nx, rt, bk, ct⟩ ρ μ = te ρ μ fun _ μ1 => nx ρ μ1 := rfl
theorem s_if : dIf tT t u ⟨nx, rt, bk, ct⟩ ρ μ = tT ρ μ fun b μ1 => if b = true then t ⟨nx, rt, bk, ct⟩ ρ μ1 else u ⟨nx, rt, bk, ct⟩ ρ μ1 := rfl
theorem s_asg : dAsg te g ⟨nx, rt, bk, ct⟩ ρ μ = te ρ μ fun x μ1 => g x ρ μ1 nx := rfl
def dPar2 (i j : Nat) (ds : List D) (ρ : Ro) (μ : Mu) (nx : Ro → Mu → Prop) : Prop := match ds with
  | [x, y] => nx ((ρ.set i (some x)).set j (some y)) μ
  | _ => False
theorem s_par : dPar i j tA ⟨nx, rt, bk, ct⟩ ρ μ = tA ρ μ fun ds μ1 => dPar2 i j ds ρ μ1 nx := rfl
theorem s_par2 : dPar2 i j [x, y] ρ μ nx = dName i x ρ μ fun ρ' μ' => dName j y ρ' μ' nx := rfl
theorem s_tup : dGTup n gs (.tup ds) ρ μ R = (ds.length = n ∧ gs ds ρ μ R) := rfl
theorem s_gnil : dGNil [] ρ μ R = R ρ μ := rfl
theorem s_gcons : dGCons g gs (d :: ds) ρ μ R = g d ρ μ fun ρ' μ' => gs ds ρ' μ' R := rfl
theorem s_op {g2 : G2} : dOp g2 ta tb ρ μ Q = ta ρ μ fun x μ1 => tb ρ μ1 fun y μ2 => g2 x y μ2 Q := rfl
theorem s_c : dC d ρ μ Q = Q d μ := rfl
def bB (x : D) (μ : Mu) (QB : Bool → Mu → Prop) : Prop := match x with
  | .bl b => QB b μ
  | _ => False
theorem s_b : dB te ρ μ QB = te ρ μ fun x μ1 => bB x μ1 QB := rfl
theorem s_bB {p : Bool} : bB (.bl p) μ QB = QB p μ := rfl
theorem s_andT : dAndT tT tU ρ μ QB = tT ρ μ fun c μ1 => if c = true then tU ρ μ1 QB else QB false μ1 := rfl
theorem s_orT : dOrT tT tU ρ μ QB = tT ρ μ fun c μ1 => if c = true then QB true μ1 else tU ρ μ1 QB := rfl
theorem s_notT : dNotT tT ρ μ QB = tT ρ μ fun c μ1 => QB (!c) μ1 := rfl
theorem s_ifE : dIfE tT ta tb ρ μ Q = tT ρ μ fun c μ1 => if c = true then ta ρ μ1 Q else tb ρ μ1 Q := rfl
def bAnd (x : D) (μ : Mu) (tb : Mu → Prop) (Q : DQ) : Prop := match x with
  | .bl true => tb μ
  | .bl false => Q (.bl false) μ
  | _ => False
def bOr (x : D) (μ : Mu) (tb : Mu → Prop) (Q : DQ) : Prop := match x with
  | .bl true => Q (.bl true) μ
  | .bl false => tb μ
  | _ => False
theorem s_and : dAnd ta tb ρ μ Q = ta ρ μ fun x μ1 => bAnd x μ1 (fun μ2 => tb ρ μ2 Q) Q := rfl
theorem s_or : dOr ta tb ρ μ Q = ta ρ μ fun x μ1 => bOr x μ1 (fun μ2 => tb ρ μ2 Q) Q := rfl
theorem s_bAnd {p : Bool} {T : Mu → Prop} : bAnd (.bl p) μ T Q = if p = true then T μ else Q (.bl false) μ := by cases p <;> rfl
theorem s_bOr {p : Bool} {T : Mu → Prop} : bOr (.bl p) μ T Q = if p = true then Q (.bl true) μ else T μ := by cases p <;> rfl
theorem s_etup : dTup tA ρ μ Q = tA ρ μ fun xs μ1 => xs.length ≤ sizeLine ∧ Q (.tup xs) μ1 := rfl
theorem s_lst : dLst tA ρ μ Q = tA ρ μ fun xs μ1 => xs.length ≤ sizeLine ∧ Q (.lst xs) μ1 := rfl
theorem s_lstM : dLstM tA ρ μ Q = tA ρ μ fun xs μ1 => xs.length ≤ sizeLine ∧ ∀ p, μ1 p = none → Q (.ref p) (mup μ1 p (.lst xs)) := rfl
theorem s_nil : dNil ρ μ QL = QL [] μ := rfl
theorem s_cons : dCons te tA ρ μ QL = te ρ μ fun x μ1 => tA ρ μ1 fun xs μ2 => QL (x :: xs) μ2 := rfl
theorem s_call {spd : SpD} : dCall spd tA ρ μ Q = tA ρ μ fun ds μ1 => spd ds μ1 Q := rfl
theorem s_callB {spd : SpD} {dd : List D} {ix : List Nat} : dCallB spd dd ix tA ρ μ Q = tA ρ μ fun ds μ1 => spd (pick ix (ds ++ dd)) μ1 Q := rfl
theorem s_cb {gg : List D → Mu → DQ → Prop} : dCB gg tA ρ μ Q = tA ρ μ fun ds μ1 => gg ds μ1 Q := rfl
theorem s_un {gg : D → Mu → DQ → Prop} : dUn gg ta ρ μ Q = ta ρ μ fun x μ1 => gg x μ1 Q := rfl
theorem s_m0 {gg : D → Mu → DQ → Prop} : dM0 gg ta ρ μ Q = ta ρ μ fun x μ1 => gg x μ1 Q := rfl
theorem s_m {gg : D → List D → Mu → DQ → Prop} : dM gg to tA ρ μ Q = to ρ μ fun x μ1 => (∃ a xs, x = .ref a ∧ μ1 a = some (.lst xs)) ∧ tA ρ μ1 fun ds μ2 => gg x ds μ2 Q := rfl
theorem s_len : dLen n tA ρ μ QL = tA ρ μ fun xs μ1 => xs.length = n ∧ QL xs μ1 := rfl
theorem s_both : dBoth tA tK ρ μ QL = tA ρ μ fun xs μ1 => tK ρ μ1 fun ys μ2 => QL (xs ++ ys) μ2 := rfl
theorem s_fld {C : Addr} {f : Str} : dFld C f to ρ μ Q = to ρ μ fun x μ1 => gFld C f x μ1 Q := rfl
theorem s_setF {C : Addr} {f : Str} : dSetF C f to tv ⟨nx, rt, bk, ct⟩ ρ μ = tv ρ μ fun y μ1 => to ρ μ1 fun x μ2 => gSetF C f x y μ2 fun μ3 => nx ρ μ3 := rfl
def gMake (C : Addr) (spd : SpD) (ix : List Nat) (ds : List D) (μ : Mu) (Q : DQ) : Prop := ∀ a, μ a = none → spd (pick ix (.ref a :: ds)) (mup μ a (.ins C [])) fun r μ2 => r = .non ∧ ∃ fs, μ2 a = some (.ins C fs) ∧ Q (.obj C fs) (mdel μ2 a)
def gMakeM (C : Addr) (spd : SpD) (ix : List Nat) (ds : List D) (μ : Mu) (Q : DQ) : Prop := ∀ a, μ a = none → spd (pick ix (.ref a :: ds)) (mup μ a (.ins C [])) fun r μ2 => r = .non ∧ Q (.ref a) μ2
theorem s_make {C : Addr} {spd : SpD} {dd : List D} {ix : List Nat} : dMake C spd dd ix tA ρ μ Q = tA ρ μ fun ds μ1 => gMake C spd ix (ds ++ dd) μ1 Q := rfl
theorem s_makeM {C : Addr} {spd : SpD} {dd : List D} {ix : List Nat} : dMakeM C spd dd ix tA ρ μ Q = tA ρ μ fun ds μ1 => gMakeM C spd ix (ds ++ dd) μ1 Q := rfl
theorem s_meth {C : Addr} {m : Str} {spd : SpD} {dd : List D} {ix : List Nat} : dMeth C m spd dd ix to tA ρ μ Q = to ρ μ fun x μ1 => (∃ fs, oin μ1 x = some (C, fs) ∧ fs.lookup m = none) ∧ tA ρ μ1 fun ds μ2 => spd (pick ix (x :: (ds ++ dd))) μ2 Q := rfl
theorem s_prop {C : Addr} {spd : SpD} : dProp C spd to ρ μ Q = to ρ μ fun x μ1 => (∃ fs, oin μ1 x = some (C, fs)) ∧ spd [x] μ1 Q := rfl
theorem s_orV : dOrV ta tb ρ μ Q = ta ρ μ fun x μ1 => ∃ z, TruD μ1 x z ∧ if z = true then Q x μ1 else tb ρ μ1 Q := rfl
def bSome (x : D) (μ : Mu) (QO : Option Int → Mu → Prop) : Prop := match x with
  | .int i => QO (some i) μ
  | _ => False
theorem s_sl {tl th : DO} : dSl te tl th ρ μ Q = te ρ μ fun x μ1 => tl ρ μ1 fun l μ2 => th ρ μ2 fun u μ3 => gSl x l u μ3 Q := rfl
theorem s_no {QO : Option Int → Mu → Prop} : dNo ρ μ QO = QO none μ := rfl
theorem s_some {QO : Option Int → Mu → Prop} : dSome te ρ μ QO = te ρ μ fun x μ1 => bSome x μ1 QO := rfl
theorem s_bSome {k : Int} {QO : Option Int → Mu → Prop} : bSome (.int k) μ QO = QO (some k) μ := rfl
def bFmt (x : D) (μ : Mu) (Q : DQ) : Prop := match x with
  | .str y => y.length ≤ sizeLine ∧ Q (.str y) μ
  | .int i => i.natAbs.log2 < 1920 ∧ Q (.str (toString i)) μ
  | _ => False
theorem s_fmt : dFmt te ρ μ Q = te ρ μ fun x μ1 => bFmt x μ1 Q := rfl
theorem s_fmtS {z : Str} : bFmt (.str z) μ Q = (z.length ≤ sizeLine ∧ Q (.str z) μ) := rfl
theorem s_fmtI {k : Int} : bFmt (.int k) μ Q = (k.natAbs.log2 < 1920 ∧ Q (.str (toString k)) μ) := rfl
theorem s_join {ts : List DE} : dJoin ts ρ μ Q = dJs ts Str.empty ρ μ fun out μ1 => Q (.str out) μ1 := rfl
def bJs (x : D) (acc : Str) (μ : Mu) (K : Str → Mu → Prop) : Prop := match x with
  | .str y => (acc ++ y).length ≤ sizeLine ∧ K (acc ++ y) μ
  | _ => False
theorem s_js0 {acc : Str} {QS : Str → Mu → Prop} : dJs [] acc ρ μ QS = QS acc μ := rfl
theorem s_js1 {acc : Str} {QS : Str → Mu → Prop} {ts : List DE} : dJs (te :: ts) acc ρ μ QS = te ρ μ fun x μ1 => bJs x acc μ1 fun z μ2 => dJs ts z ρ μ2 QS := by
  show (te ρ μ _) = _
  congr
theorem s_bJs {acc z : Str} {KK : Str → Mu → Prop} : bJs (.str z) acc μ KK = ((acc ++ z).length ≤ sizeLine ∧ KK (acc ++ z) μ) := rfl
theorem s_sub : dSub to ti d ρ μ R = to ρ μ fun x μ1 => ti ρ μ1 fun i μ2 => gSetL x i d μ2 fun μ3 => R ρ μ3 := rfl
theorem s_yes {QB : Bool → Mu → Prop} : dYes ρ μ QB = QB true μ := rfl
theorem p_nil {α : Type} {l : List α} : pick [] l = [] := rfl

theorem v_0 : dVar 0 (some d :: ρ) μ Q = Q d μ := rfl
theorem n_0 {o : Option D} : dName 0 d (o :: ρ) μ R = R (some d :: ρ) μ := rfl
theorem v_1 {o0 : Option D} : dVar 1 (o0 :: some d :: ρ) μ Q = Q d μ := rfl
theorem n_1 {o0 : Option D} {o : Option D} : dName 1 d (o0 :: o :: ρ) μ R = R (o0 :: some d :: ρ) μ := rfl
theorem v_2 {o0 o1 : Option D} : dVar 2 (o0 :: o1 :: some d :: ρ) μ Q = Q d μ := rfl
theorem n_2 {o0 o1 : Option D} {o : Option D} : dName 2 d (o0 :: o1 :: o :: ρ) μ R = R (o0 :: o1 :: some d :: ρ) μ := rfl
theorem v_3 {o0 o1 o2 : Option D} : dVar 3 (o0 :: o1 :: o2 :: some d :: ρ) μ Q = Q d μ := rfl
theorem n_3 {o0 o1 o2 : Option D} {o : Option D} : dName 3 d (o0 :: o1 :: o2 :: o :: ρ) μ R = R (o0 :: o1 :: o2 :: some d :: ρ) μ := rfl
theorem v_4 {o0 o1 o2 o3 : Option D} : dVar 4 (o0 :: o1 :: o2 :: o3 :: some d :: ρ) μ Q = Q d μ := rfl
theorem n_4 {o0 o1 o2 o3 : Option D} {o : Option D} : dName 4 d (o0 :: o1 :: o2 :: o3 :: o :: ρ) μ R = R (o0 :: o1 :: o2 :: o3 :: some d :: ρ) μ := rfl
theorem v_5 {o0 o1 o2 o3 o4 : Option D} : dVar 5 (o0 :: o1 :: o2 :: o3 :: o4 :: some d :: ρ) μ Q = Q d μ := rfl
theorem n_5 {o0 o1 o2 o3 o4 : Option D} {o : Option D} : dName 5 d (o0 :: o1 :: o2 :: o3 :: o4 :: o :: ρ) μ R = R (o0 :: o1 :: o2 :: o3 :: o4 :: some d :: ρ) μ := rfl
theorem v_6 {o0 o1 o2 o3 o4 o5 : Option D} : dVar 6 (o0 :: o1 :: o2 :: o3 :: o4 :: o5 :: some d :: ρ) μ Q = Q d μ := rfl
theorem n_6 {o0 o1 o2 o3 o4 o5 : Option D} {o : Option D} : dName 6 d (o0 :: o1 :: o2 :: o3 :: o4 :: o5 :: o :: ρ) μ R = R (o0 :: o1 :: o2 :: o3 :: o4 :: o5 :: some d :: ρ) μ := rfl
theorem v_7 {o0 o1 o2 o3 o4 o5 o6 : Option D} : dVar 7 (o0 :: o1 :: o2 :: o3 :: o4 :: o5 :: o6 :: some d :: ρ) μ Q = Q d μ := rfl
theorem n_7 {o0 o1 o2 o3 o4 o5 o6 : Option D} {o : Option D} : dName 7 d (o0 :: o1 :: o2 :: o3 :: o4 :: o5 :: o6 :: o :: ρ) μ R = R (o0 :: o1 :: o2 :: o3 :: o4 :: o5 :: o6 :: some d :: ρ) μ := rfl
theorem v_8 {o0 o1 o2 o3 o4 o5 o6 o7 : Option D} : dVar 8 (o0 :: o1 :: o2 :: o3 :: o4 :: o5 :: o6 :: o7 :: some d :: ρ) μ Q = Q d μ := rfl
theorem n_8 {o0 o1 o2 o3 o4 o5 o6 o7 : Option D} {o : Option D} : dName 8 d (o0 :: o1 :: o2 :: o3 :: o4 :: o5 :: o6 :: o7 :: o :: ρ) μ R = R (o0 :: o1 :: o2 :: o3 :: o4 :: o5 :: o6 :: o7 :: some d :: ρ) μ := rfl
theorem v_9 {o0 o1 o2 o3 o4 o5 o6 o7 o8 : Option D} : dVar 9 (o0 :: o1 :: o2 :: o3 :: o4 :: o5 :: o6 :: o7 :: o8 :: some d :: ρ) μ Q = Q d μ := rfl
theorem n_9 {o0 o1 o2 o3 o4 o5 o6 o7 o8 : Option D} {o : Option D} : dName 9 d (o0 :: o1 :: o2 :: o3 :: o4 :: o5 :: o6 :: o7 :: o8 :: o :: ρ) μ R = R (o0 :: o1 :: o2 :: o3 :: o4 :: o5 :: o6 :: o7 :: o8 :: some d :: ρ) μ := rfl
theorem v_10 {o0 o1 o2 o3 o4 o5 o6 o7 o8 o9 : Option D} : dVar 10 (o0 :: o1 :: o2 :: o3 :: o4 :: o5 :: o6 :: o7 :: o8 :: o9 :: some d :: ρ) μ Q = Q d μ := rfl
theorem n_10 {o0 o1 o2 o3 o4 o5 o6 o7 o8 o9 : Option D} {o : Option D} : dName 10 d (o0 :: o1 :: o2 :: o3 :: o4 :: o5 :: o6 :: o7 :: o8 :: o9 :: o :: ρ) μ R = R (o0 :: o1 :: o2 :: o3 :: o4 :: o5 :: o6 :: o7 :: o8 :: o9 :: some d :: ρ) μ := rfl
theorem v_11 {o0 o1 o2 o3 o4 o5 o6 o7 o8 o9 o10 : Option D} : dVar 11 (o0 :: o1 :: o2 :: o3 :: o4 :: o5 :: o6 :: o7 :: o8 :: o9 :: o10 :: some d :: ρ) μ Q = Q d μ := rfl
theorem n_11 {o0 o1 o2 o3 o4 o5 o6 o7 o8 o9 o10 : Option D} {o : Option D} : dName 11 d (o0 :: o1 :: o2 :: o3 :: o4 :: o5 :: o6 :: o7 :: o8 :: o9 :: o10 :: o :: ρ) μ R = R (o0 :: o1 :: o2 :: o3 :: o4 :: o5 :: o6 :: o7 :: o8 :: o9 :: o10 :: some d :: ρ) μ := rfl
theorem v_12 {o0 o1 o2 o3 o4 o5 o6 o7 o8 o9 o10 o11 : Option D} : dVar 12 (o0 :: o1 :: o2 :: o3 :: o4 :: o5 :: o6 :: o7 :: o8 :: o9 :: o10 :: o11 :: some d :: ρ) μ Q = Q d μ := rfl
theorem n_12 {o0 o1 o2 o3 o4 o5 o6 o7 o8 o9 o10 o11 : Option D} {o : Option D} : dName 12 d (o0 :: o1 :: o2 :: o3 :: o4 :: o5 :: o6 :: o7 :: o8 :: o9 :: o10 :: o11 :: o :: ρ) μ R = R (o0 :: o1 :: o2 :: o3 :: o4 :: o5 :: o6 :: o7 :: o8 :: o9 :: o10 :: o11 :: some d :: ρ) μ := rfl
theorem v_13 {o0 o1 o2 o3 o4 o5 o6 o7 o8 o9 o10 o11 o12 : Option D} : dVar 13 (o0 :: o1 :: o2 :: o3 :: o4 :: o5 :: o6 :: o7 :: o8 :: o9 :: o10 :: o11 :: o12 :: some d :: ρ) μ Q = Q d μ := rfl
theorem n_13 {o0 o1 o2 o3 o4 o5 o6 o7 o8 o9 o10 o11 o12 : Option D} {o : Option D} : dName 13 d (o0 :: o1 :: o2 :: o3 :: o4 :: o5 :: o6 :: o7 :: o8 :: o9 :: o10 :: o11 :: o12 :: o :: ρ) μ R = R (o0 :: o1 :: o2 :: o3 :: o4 :: o5 :: o6 :: o7 :: o8 :: o9 :: o10 :: o11 :: o12 :: some d :: ρ) μ := rfl
theorem v_14 {o0 o1 o2 o3 o4 o5 o6 o7 o8 o9 o10 o11 o12 o13 : Option D} : dVar 14 (o0 :: o1 :: o2 :: o3 :: o4 :: o5 :: o6 :: o7 :: o8 :: o9 :: o10 :: o11 :: o12 :: o13 :: some d :: ρ) μ Q = Q d μ := rfl
theorem n_14 {o0 o1 o2 o3 o4 o5 o6 o7 o8 o9 o10 o11 o12 o13 : Option D} {o : Option D} : dName 14 d (o0 :: o1 :: o2 :: o3 :: o4 :: o5 :: o6 :: o7 :: o8 :: o9 :: o10 :: o11 :: o12 :: o13 :: o :: ρ) μ R = R (o0 :: o1 :: o2 :: o3 :: o4 :: o5 :: o6 :: o7 :: o8 :: o9 :: o10 :: o11 :: o12 :: o13 :: some d :: ρ) μ := rfl
theorem v_15 {o0 o1 o2 o3 o4 o5 o6 o7 o8 o9 o10 o11 o12 o13 o14 : Option D} : dVar 15 (o0 :: o1 :: o2 :: o3 :: o4 :: o5 :: o6 :: o7 :: o8 :: o9 :: o10 :: o11 :: o12 :: o13 :: o14 :: some d :: ρ) μ Q = Q d μ := rfl
theorem n_15 {o0 o1 o2 o3 o4 o5 o6 o7 o8 o9 o10 o11 o12 o13 o14 : Option D} {o : Option D} : dName 15 d (o0 :: o1 :: o2 :: o3 :: o4 :: o5 :: o6 :: o7 :: o8 :: o9 :: o10 :: o11 :: o12 :: o13 :: o14 :: o :: ρ) μ R = R (o0 :: o1 :: o2 :: o3 :: o4 :: o5 :: o6 :: o7 :: o8 :: o9 :: o10 :: o11 :: o12 :: o13 :: o14 :: some d :: ρ) μ := rfl
theorem v_16 {o0 o1 o2 o3 o4 o5 o6 o7 o8 o9 o10 o11 o12 o13 o14 o15 : Option D} : dVar 16 (o0 :: o1 :: o2 :: o3 :: o4 :: o5 :: o6 :: o7 :: o8 :: o9 :: o10 :: o11 :: o12 :: o13 :: o14 :: o15 :: some d :: ρ) μ Q = Q d μ := rfl
theorem n_16 {o0 o1 o2 o3 o4 o5 o6 o7 o8 o9 o10 o11 o12 o13 o14 o15 : Option D} {o : Option D} : dName 16 d (o0 :: o1 :: o2 :: o3 :: o4 :: o5 :: o6 :: o7 :: o8 :: o9 :: o10 :: o11 :: o12 :: o13 :: o14 :: o15 :: o :: ρ) μ R = R (o0 :: o1 :: o2 :: o3 :: o4 :: o5 :: o6 :: o7 :: o8 :: o9 :: o10 :: o11 :: o12 :: o13 :: o14 :: o15 :: some d :: ρ) μ := rfl
theorem v_17 {o0 o1 o2 o3 o4 o5 o6 o7 o8 o9 o10 o11 o12 o13 o14 o15 o16 : Option D} : dVar 17 (o0 :: o1 :: o2 :: o3 :: o4 :: o5 :: o6 :: o7 :: o8 :: o9 :: o10 :: o11 :: o12 :: o13 :: o14 :: o15 :: o16 :: some d :: ρ) μ Q = Q d μ := rfl
theorem n_17 {o0 o1 o2 o3 o4 o5 o6 o7 o8 o9 o10 o11 o12 o13 o14 o15 o16 : Option D} {o : Option D} : dName 17 d (o0 :: o1 :: o2 :: o3 :: o4 :: o5 :: o6 :: o7 :: o8 :: o9 :: o10 :: o11 :: o12 :: o13 :: o14 :: o15 :: o16 :: o :: ρ) μ R = R (o0 :: o1 :: o2 :: o3 :: o4 :: o5 :: o6 :: o7 :: o8 :: o9 :: o10 :: o11 :: o12 :: o13 :: o14 :: o15 :: o16 :: some d :: ρ) μ := rfl
theorem p_0 {α : Type} {ix : List Nat} {x : α} {l : List α} : pick (0 :: ix) (x :: l) = x :: pick ix (x :: l) := rfl
theorem p_1 {α : Type} {ix : List Nat} {z0 x : α} {l : List α} : pick (1 :: ix) (z0 :: x :: l) = x :: pick ix (z0 :: x :: l) := rfl
theorem p_2 {α : Type} {ix : List Nat} {z0 z1 x : α} {l : List α} : pick (2 :: ix) (z0 :: z1 :: x :: l) = x :: pick ix (z0 :: z1 :: x :: l) := rfl
theorem p_3 {α : Type} {ix : List Nat} {z0 z1 z2 x : α} {l : List α} : pick (3 :: ix) (z0 :: z1 :: z2 :: x :: l) = x :: pick ix (z0 :: z1 :: z2 :: x :: l) := rfl
theorem p_4 {α : Type} {ix : List Nat} {z0 z1 z2 z3 x : α} {l : List α} : pick (4 :: ix) (z0 :: z1 :: z2 :: z3 :: x :: l) = x :: pick ix (z0 :: z1 :: z2 :: z3 :: x :: l) := rfl
theorem p_5 {α : Type} {ix : List Nat} {z0 z1 z2 z3 z4 x : α} {l : List α} : pick (5 :: ix) (z0 :: z1 :: z2 :: z3 :: z4 :: x :: l) = x :: pick ix (z0 :: z1 :: z2 :: z3 :: z4 :: x :: l) := rfl
theorem p_6 {α : Type} {ix : List Nat} {z0 z1 z2 z3 z4 z5 x : α} {l : List α} : pick (6 :: ix) (z0 :: z1 :: z2 :: z3 :: z4 :: z5 :: x :: l) = x :: pick ix (z0 :: z1 :: z2 :: z3 :: z4 :: z5 :: x :: l) := rfl
theorem p_7 {α : Type} {ix : List Nat} {z0 z1 z2 z3 z4 z5 z6 x : α} {l : List α} : pick (7 :: ix) (z0 :: z1 :: z2 :: z3 :: z4 :: z5 :: z6 :: x :: l) = x :: pick ix (z0 :: z1 :: z2 :: z3 :: z4 :: z5 :: z6 :: x :: l) := rfl
end
theorem isCls_eq {K : PySem.W.Frag} {C : Addr} : PySem.W.isClsIn K C = (PySem.W.clsIn K C).isSome := rfl
end Dl

namespace M72
def sg (t b : Int) : Int := if b < 0 then -(Int.gcd t b : Int) else (Int.gcd t b : Int)
def low (t b : Int) : Int × Int := (Int.fdiv t (sg t b), Int.fdiv b (sg t b))
theorem sg_abs (t b : Int) : (sg t b).natAbs = Int.gcd t b := by unfold sg; split <;> simp
theorem low_spec {t b : Int} (hb : b ≠ 0) : ∃ p q, low t b = (p, q) ∧ sg t b ≠ 0 ∧ t = p * sg t b ∧ b = q * sg t b ∧ 0 < q ∧ Int.gcd p q = 1 := by
  have g0 : 0 < Int.gcd t b := Int.gcd_pos_of_ne_zero_right t hb
  have gn : sg t b ≠ 0 := fun e => by have := sg_abs t b; rw [e] at this; simp at this; omega
  have d1 : sg t b ∣ t := by
    have : ((Int.gcd t b : Int)) ∣ t := Int.gcd_dvd_left t b
    unfold sg
    split
    · exact Int.neg_dvd.mpr this
    · exact this
  have d2 : sg t b ∣ b := by
    have : ((Int.gcd t b : Int)) ∣ b := Int.gcd_dvd_right t b
    unfold sg
    split
    · exact Int.neg_dvd.mpr this
    · exact this
  obtain ⟨p, hp⟩ := d1
  obtain ⟨q, hq⟩ := d2
  have e1 : t = p * sg t b := by rw [Int.mul_comm]; exact hp
  have e2 : b = q * sg t b := by rw [Int.mul_comm]; exact hq
  have f1 : Int.fdiv t (sg t b) = p := by
    have := Int.mul_fdiv_cancel p gn
    rw [← e1] at this
    exact this
  have f2 : Int.fdiv b (sg t b) = q := by
    have := Int.mul_fdiv_cancel q gn
    rw [← e2] at this
    exact this
  refine ⟨p, q, by unfold low; rw [f1, f2], gn, e1, e2, ?_, ?_⟩
  · have hs : (b < 0 ∧ sg t b < 0) ∨ (0 < b ∧ 0 < sg t b) := by
      unfold sg
      by_cases h : b < 0
      · rw [if_pos h]; exact .inl ⟨h, by omega⟩
      · rw [if_neg h]; exact .inr ⟨by omega, by omega⟩
    rcases hs with ⟨h1, h2⟩ | ⟨h1, h2⟩
    · rcases Int.lt_trichotomy q 0 with h | h | h
      · have := Int.mul_pos_of_neg_of_neg h h2; omega
      · rw [h] at e2; omega
      · exact h
    · rcases Int.lt_trichotomy q 0 with h | h | h
      · have := Int.mul_neg_of_neg_of_pos h h2; omega
      · rw [h] at e2; omega
      · exact h
  · have h := sg_abs t b
    have h2 : Int.gcd t b = Int.gcd p q * (sg t b).natAbs := by
      have := Int.gcd_mul_right p (sg t b) q
      rw [← e1, ← e2] at this
      exact this
    rw [h] at h2
    have : Int.gcd p q * Int.gcd t b = 1 * Int.gcd t b := by omega
    exact Nat.eq_of_mul_eq_mul_right g0 this
theorem low_idem {p q : Int} (h0 : 0 < q) (h : Int.gcd p q = 1) : low p q = (p, q) := by
  have e : sg p q = 1 := by unfold sg; rw [if_neg (by omega), h]; rfl
  unfold low
  rw [e, Int.fdiv_one, Int.fdiv_one]
theorem low_one {w : Int} : low w 1 = (w, 1) := low_idem (by decide) (by simp)
theorem low_abs {t b p q : Int} (hb : b ≠ 0) (h : low t b = (p, q)) : p.natAbs ≤ t.natAbs ∧ q.natAbs ≤ b.natAbs ∧ 0 < q ∧ Int.gcd p q = 1 := by
  obtain ⟨p', q', e, gn, e1, e2, h0, h1⟩ := low_spec (t := t) hb
  rw [e] at h
  cases h
  have k : 0 < (sg t b).natAbs := Int.natAbs_pos.mpr gn
  refine ⟨?_, ?_, h0, h1⟩
  · have := congrArg Int.natAbs e1
    rw [Int.natAbs_mul] at this
    rw [this]
    exact Nat.le_mul_of_pos_right _ k
  · have := congrArg Int.natAbs e2
    rw [Int.natAbs_mul] at this
    rw [this]
    exact Nat.le_mul_of_pos_right _ k
theorem cross {a b c d : Int} (hb : 0 < b) (hd : 0 < d) (h1 : Int.gcd a b = 1) (h2 : Int.gcd c d = 1) : (a = c ∧ b = d) ↔ a * d = c * b := by
  constructor
  · rintro ⟨rfl, rfl⟩; rfl
  · intro h
    have n1 : Nat.Coprime a.natAbs b.natAbs := h1
    have n2 : Nat.Coprime c.natAbs d.natAbs := h2
    have hn : a.natAbs * d.natAbs = c.natAbs * b.natAbs := by rw [← Int.natAbs_mul, ← Int.natAbs_mul, h]
    have d1 : b.natAbs ∣ d.natAbs := by
      have : b.natAbs ∣ a.natAbs * d.natAbs := ⟨c.natAbs, by rw [hn, Nat.mul_comm]⟩
      exact Nat.Coprime.dvd_of_dvd_mul_left n1.symm this
    have d2 : d.natAbs ∣ b.natAbs := by
      have : d.natAbs ∣ c.natAbs * b.natAbs := ⟨a.natAbs, by rw [← hn, Nat.mul_comm]⟩
      exact Nat.Coprime.dvd_of_dvd_mul_left n2.symm this
    have e : b.natAbs = d.natAbs := Nat.dvd_antisymm d1 d2
    have e' : b = d := by omega
    subst e'
    exact ⟨Int.eq_of_mul_eq_mul_right (by omega) h, rfl⟩
theorem less_trans {a b c d e f : Int} (hb : 0 < b) (hd : 0 < d) (hf : 0 < f) (h1 : a * d < c * b) (h2 : c * f < e * d) : a * f < e * b := by
  have k1 : a * d * f < c * b * f := Int.mul_lt_mul_of_pos_right h1 hf
  have k2 : c * f * b < e * d * b := Int.mul_lt_mul_of_pos_right h2 hb
  have k3 : c * b * f = c * f * b := by rw [Int.mul_assoc, Int.mul_comm b f, ← Int.mul_assoc]
  have k4 : a * d * f = a * f * d := by rw [Int.mul_assoc, Int.mul_comm d f, ← Int.mul_assoc]
  have k5 : e * d * b = e * b * d := by rw [Int.mul_assoc, Int.mul_comm d b, ← Int.mul_assoc]
  rw [k3, k4] at k1
  rw [k5] at k2
  exact Int.lt_of_mul_lt_mul_right (Int.lt_trans k1 k2) (Int.le_of_lt hd)
theorem gcd_step {x y : Int} (hx : 0 ≤ x) (h : 0 < y) : Int.gcd y (x % y) = Int.gcd x y := by
  obtain ⟨m, rfl⟩ := Int.eq_ofNat_of_zero_le hx
  obtain ⟨n, rfl⟩ := Int.eq_ofNat_of_zero_le (Int.le_of_lt h)
  show Nat.gcd n ((m : Int) % (n : Int)).natAbs = Nat.gcd m n
  have e : ((m : Int) % (n : Int)).natAbs = m % n := by rw [← Int.natCast_emod]; rfl
  rw [e, Nat.gcd_comm m n, Nat.gcd_comm n (m % n), ← Nat.gcd_rec]
theorem gcd_abs {x y : Int} : Int.gcd (if x < 0 then -x else x) (if y < 0 then -y else y) = Int.gcd x y := by
  split <;> split <;> simp
end M72

namespace K72
open PySem PySem.Spec PyProof.Rows L2 Dl M72
def topS (i : Nat) : Stmt := PySem.Challenge.pw_ownwake_k72_exact_fractions.main.body.getD i (.Pass ⟨0, 0, 0, 0⟩)
abbrev s_divisor_of : Stmt := topS 1
theorem sc_divisor_of : FnScope ["one", "other"] ["one", "other"] (defScope s_divisor_of) := ⟨rfl, rfl, rfl, by decide +kernel, rfl, by decide +kernel, by decide +kernel⟩
abbrev s__law_deck : Stmt := topS 4
theorem sc__law_deck : FnScope ["_law_script", "_law_cells", "_law_mixed", "_law_cell"] ["_law_script"] (defScope s__law_deck) := ⟨rfl, rfl, rfl, by decide +kernel, rfl, by decide +kernel, by decide +kernel⟩
abbrev s__law_draw : Stmt := topS 5
theorem sc__law_draw : FnScope ["_law_deck_here", "_law_many", "_law_cell", "_law_mixed"] ["_law_deck_here", "_law_many"] (defScope s__law_draw) := ⟨rfl, rfl, rfl, by decide +kernel, rfl, by decide +kernel, by decide +kernel⟩
abbrev s__law_pick : Stmt := topS 6
theorem sc__law_pick : FnScope ["_law_deck_here", "_law_some"] ["_law_deck_here", "_law_some"] (defScope s__law_pick) := ⟨rfl, rfl, rfl, by decide +kernel, rfl, by decide +kernel, by decide +kernel⟩
abbrev s__law_whole : Stmt := topS 7
theorem sc__law_whole : FnScope ["_law_deck_here", "_law_great", "_law_some"] ["_law_deck_here"] (defScope s__law_whole) := ⟨rfl, rfl, rfl, by decide +kernel, rfl, by decide +kernel, by decide +kernel⟩
abbrev s__law_words : Stmt := topS 8
theorem sc__law_words : FnScope ["_law_deck_here", "_law_low", "_law_by", "_law_high"] ["_law_deck_here"] (defScope s__law_words) := ⟨rfl, rfl, rfl, by decide +kernel, rfl, by decide +kernel, by decide +kernel⟩
abbrev s__law_near : Stmt := topS 9
theorem sc__law_near : FnScope ["_law_deck_here", "_law_words_here", "_law_high", "_law_low", "_law_by"] ["_law_deck_here", "_law_words_here"] (defScope s__law_near) := ⟨rfl, rfl, rfl, by decide +kernel, rfl, by decide +kernel, by decide +kernel⟩
abbrev s__law_divisor : Stmt := topS 10
theorem sc__law_divisor : FnScope ["_law_first", "_law_second"] ["_law_first", "_law_second"] (defScope s__law_divisor) := ⟨rfl, rfl, rfl, by decide +kernel, rfl, by decide +kernel, by decide +kernel⟩
abbrev s__law_lowest : Stmt := topS 11
theorem sc__law_lowest : FnScope ["_law_high", "_law_low", "_law_by"] ["_law_high", "_law_low"] (defScope s__law_lowest) := ⟨rfl, rfl, rfl, by decide +kernel, rfl, by decide +kernel, by decide +kernel⟩
abbrev s__law_is : Stmt := topS 12
theorem sc__law_is : FnScope ["_law_made", "_law_high", "_law_low"] ["_law_made", "_law_high", "_law_low"] (defScope s__law_is) := ⟨rfl, rfl, rfl, by decide +kernel, rfl, by decide +kernel, by decide +kernel⟩
abbrev s__law_text : Stmt := topS 13
theorem sc__law_text : FnScope ["_law_high", "_law_low"] ["_law_high", "_law_low"] (defScope s__law_text) := ⟨rfl, rfl, rfl, by decide +kernel, rfl, by decide +kernel, by decide +kernel⟩
abbrev s__law_pair_right : Stmt := topS 14
theorem sc__law_pair_right : FnScope ["_law_first", "_law_second", "_law_a", "_law_b", "_law_c", "_law_d", "_law_x", "_law_y"] ["_law_first", "_law_second"] (defScope s__law_pair_right) := ⟨rfl, rfl, rfl, by decide +kernel, rfl, by decide +kernel, by decide +kernel⟩
abbrev s__law_alone : Stmt := topS 15
theorem sc__law_alone : FnScope ["_law_words_here", "_law_made", "_law_others", "_law_thing"] ["_law_words_here"] (defScope s__law_alone) := ⟨rfl, rfl, rfl, by decide +kernel, rfl, by decide +kernel, by decide +kernel⟩
abbrev s__law_row_right : Stmt := topS 16
theorem sc__law_row_right : FnScope ["_law_words_here", "_law_some", "_law_high", "_law_low", "_law_first", "_law_second", "_law_third"] ["_law_words_here"] (defScope s__law_row_right) := ⟨rfl, rfl, rfl, by decide +kernel, rfl, by decide +kernel, by decide +kernel⟩
abbrev s_law : Stmt := topS 17
theorem sc_law : FnScope ["_law_script", "_law_deck_here", "_law_turn", "_law_first", "_law_second", "_law_whole_here"] ["_law_script"] (defScope s_law) := ⟨rfl, rfl, rfl, by decide +kernel, rfl, by decide +kernel, by decide +kernel⟩
abbrev s_Ratio___init__ : Stmt := inClass (topS 2) 0
theorem sc_Ratio___init__ : FnScope ["self", "top", "bottom", "by"] ["self", "top", "bottom"] (defScope s_Ratio___init__) := ⟨rfl, rfl, rfl, by decide +kernel, rfl, by decide +kernel, by decide +kernel⟩
abbrev s_Ratio___eq__ : Stmt := inClass (topS 2) 1
theorem sc_Ratio___eq__ : FnScope ["self", "other"] ["self", "other"] (defScope s_Ratio___eq__) := ⟨rfl, rfl, rfl, by decide +kernel, rfl, by decide +kernel, by decide +kernel⟩
abbrev s_Ratio_is_less : Stmt := inClass (topS 2) 2
theorem sc_Ratio_is_less : FnScope ["self", "other"] ["self", "other"] (defScope s_Ratio_is_less) := ⟨rfl, rfl, rfl, by decide +kernel, rfl, by decide +kernel, by decide +kernel⟩
abbrev s_Ratio___add__ : Stmt := inClass (topS 2) 3
theorem sc_Ratio___add__ : FnScope ["self", "other"] ["self", "other"] (defScope s_Ratio___add__) := ⟨rfl, rfl, rfl, by decide +kernel, rfl, by decide +kernel, by decide +kernel⟩
abbrev s_Ratio___sub__ : Stmt := inClass (topS 2) 4
theorem sc_Ratio___sub__ : FnScope ["self", "other"] ["self", "other"] (defScope s_Ratio___sub__) := ⟨rfl, rfl, rfl, by decide +kernel, rfl, by decide +kernel, by decide +kernel⟩
abbrev s_Ratio___mul__ : Stmt := inClass (topS 2) 5
theorem sc_Ratio___mul__ : FnScope ["self", "other"] ["self", "other"] (defScope s_Ratio___mul__) := ⟨rfl, rfl, rfl, by decide +kernel, rfl, by decide +kernel, by decide +kernel⟩
abbrev s_Ratio___bool__ : Stmt := inClass (topS 2) 6
theorem sc_Ratio___bool__ : FnScope ["self"] ["self"] (defScope s_Ratio___bool__) := ⟨rfl, rfl, rfl, by decide +kernel, rfl, by decide +kernel, by decide +kernel⟩
abbrev s_Ratio___str__ : Stmt := inClass (topS 2) 7
theorem sc_Ratio___str__ : FnScope ["self"] ["self"] (defScope s_Ratio___str__) := ⟨rfl, rfl, rfl, by decide +kernel, rfl, by decide +kernel, by decide +kernel⟩
structure Txt (mg : Str → Option Value) (C : Addr) : Prop where
  Ratio : mg "Ratio" = some (.ref C)
  abs : mg "abs" = none
  bool : mg "bool" = none
  isinstance : mg "isinstance" = none
  str : mg "str" = none
  list : mg "list" = none
  repr : mg "repr" = none
  range : mg "range" = none
  len : mg "len" = none
section
variable {P : Program} {w : World} {K : PySem.W.Frag} {mg : Str → Option Value} {base : Heap} {f C : Addr} {fd : FuncData}
local macro_rules | `(tactic| walk_at "dd") => `(tactic| try simp only [dSeq, dNext, dRet, dIf, dAsg, dPar, dName, dGTup, dGCons, dGNil, dOp, dVar, slot, dC, dB, dAndT, dOrT, dNotT, dIfE, dAnd, dOr, dTup, dLst, dCons, dNil, dCall, dCallK, dCB, dUn, dSl, dNo, dSome, startD, dM0,
  gEq_int, gNe_int, gEq_bl, gEq_str, gNe_str, gLt_int, gGt_int, gLe_int, gGe_int, gAdd_int, gSub_int, gMul_int, gMod_int, gDiv_int, gPow_int, gNeg_int, gNot_bl, gIs_bl, gIx_t0, gIx_t1, gIx_t2, gLen_l, gLen_t, gSl_l, gSl_sq, gSl_t, gRev_l, gRev_t, gRevM_l, gList_l, gList_sq, gList_t, gMax2_int, gRepr_l, gRepr_t,
  List.map, List.replicate, List.length, List.set, List.cons_append, List.nil_append, List.append, Nat.sub, Nat.reduceSub, Nat.reduceAdd, true_and, and_true, if_true, if_false, decide_true, decide_false, Bool.not_true, Bool.not_false, Bool.false_eq_true, reduceIte])
local macro_rules | `(tactic| walk_at "d0") => `(tactic| try simp only [startD, List.map, List.replicate, List.length, List.cons_append, List.nil_append, List.append, Nat.sub, Nat.reduceSub, Nat.reduceAdd])
local macro_rules | `(tactic| walk_at "dx") => `(tactic| try simp only [↓s_seq, ↓s_next, ↓s_brk, ↓s_cnt, ↓s_retN, ↓s_ret, ↓s_drop, ↓s_if, ↓s_asg, ↓s_par, ↓s_par2, ↓s_tup, ↓s_gnil, ↓s_gcons, ↓s_op, ↓s_c, ↓s_b, ↓s_bB, ↓s_andT, ↓s_orT, ↓s_notT, ↓s_ifE, ↓s_and, ↓s_or, ↓s_bAnd, ↓s_bOr, ↓s_etup, ↓s_lst, ↓s_nil, ↓s_cons, ↓s_call, ↓s_callB, ↓s_cb, ↓s_un, ↓s_m0, ↓s_len, ↓s_both, ↓s_fld, ↓s_setF, ↓s_make, ↓s_makeM, ↓s_meth, ↓s_prop, ↓s_orV, ↓s_sl, ↓s_no, ↓s_some, ↓s_bSome, ↓s_fmt, ↓s_fmtS, ↓s_fmtI, ↓s_join, ↓s_js0, ↓s_js1, ↓s_bJs, ↓s_sub, ↓s_yes, ↓p_nil, ↓v_0, ↓v_1, ↓v_2, ↓v_3, ↓v_4, ↓v_5, ↓v_6, ↓v_7, ↓v_8, ↓v_9, ↓v_10, ↓v_11, ↓v_12, ↓v_13, ↓v_14, ↓v_15, ↓v_16, ↓v_17, ↓n_0, ↓n_1, ↓n_2, ↓n_3, ↓n_4, ↓n_5, ↓n_6, ↓n_7, ↓n_8, ↓n_9, ↓n_10, ↓n_11, ↓n_12, ↓n_13, ↓n_14, ↓n_15, ↓n_16, ↓n_17, ↓p_0, ↓p_1, ↓p_2, ↓p_3, ↓p_4, ↓p_5, ↓p_6, ↓p_7, ↓ex_some, ↓ex_bl, ↓gEq_int, ↓gNe_int, ↓gEq_bl, ↓gNe_bl, ↓gEq_str, ↓gNe_str, ↓gLt_int, ↓gGt_int, ↓gLe_int, ↓gGe_int, ↓gAdd_int, ↓gAdd_str, ↓gAdd_t, ↓gAdd_l, ↓gEq_nil, ↓gNe_nil0, ↓gSub_int, ↓gMul_int, ↓gMod_int, ↓gDiv_int, ↓gPow_int, ↓gNeg_int, ↓gNot_bl, ↓gIs_bl, ↓gIx_t0, ↓gIx_t1, ↓gIx_t2, ↓gLen_l, ↓gLen_t, ↓gSl_l, ↓gSl_sq, ↓gSl_t, ↓gRev_l, ↓gRev_t, ↓gRevM_l, ↓gList_l, ↓gList_sq, ↓gList_t, ↓gMax2_int, ↓gRepr_l, ↓gRepr_t, ↓gAbs_int, ↓gDivA_int, ↓gMulW_int, ↓gStrI_int, ↓gBoolI_int, ↓gBoolI_bl, ↓gTuple_l, ↓gTuple_t, ↓gIsi_non, ↓gIsi_bl, ↓gIsi_int, ↓gIsi_str, ↓gIsi_lst, ↓gIsi_tup, ↓gIsi_obj, ↓gDun_obj, ↓gOne_obj, ↓isBl_bl, ↓isStr_str, ansB, ansO, List.length, List.cons_append, List.nil_append, List.append, Nat.reduceAdd, true_and, and_true, if_true, if_false, decide_true, decide_false, Bool.not_true, Bool.not_false, Bool.false_eq_true, reduceIte])

theorem t_b : (("bottom" : Str) == "top") = false := by decide +kernel
theorem t_t : (("top" : Str) == "top") = true := by decide +kernel
theorem b_b : (("bottom" : Str) == "bottom") = true := by decide +kernel
theorem tb : (("top" : Str) = "bottom") = False := by simp only [eq_iff_iff, iff_false]; decide +kernel
theorem bt : (("bottom" : Str) == "top") = false := by decide +kernel
abbrev rat (C : Addr) (a b : Int) : D := .obj C [("top", .int a), ("bottom", .int b)]
theorem fld_top {a b : Int} {μ : Mu} {Q : DQ} : gFld C "top" (rat C a b) μ Q = Q (.int a) μ := by
  rw [gFld_obj]; simp only [List.lookup, t_t, ex_some]
theorem fld_bottom {a b : Int} {μ : Mu} {Q : DQ} : gFld C "bottom" (rat C a b) μ Q = Q (.int b) μ := by
  rw [gFld_obj]; simp only [List.lookup, t_b, b_b, ex_some]
/-! ### the divisor -/
def sp_gcd : SpD := fun ds μ Q => ∃ a b : Int, ds = [.int a, .int b] ∧ Q (.int (Int.gcd a b)) μ
theorem ok_divisor_of (T : Txt mg C) (F : Fun K "divisor_of" "divisor_of" s_divisor_of f fd) : FnG P w K mg base CX0 1 f fd ["one", "other"] (up K sp_gcd) := by
  refine okD F sc_divisor_of (fun ⟨a, b, e, _⟩ => by rw [e]; rfl) ?_
  rintro X ⟨cdv, A, outer, s, H, E, rfl⟩ hgu hr
  refine ⟨_, (ds_cons (ds_par (i := 0) (j := 1) rfl sc_divisor_of.nd (pda_cons (pd_abs T.abs (pd_var 0)) (pda_cons (pd_abs T.abs (pd_var 1)) pda_nil)))
      (ds_cons (ds_while PassesOwn.never (pt_ne hr (pd_var 1) pd_int) (ds_one (ds_par (i := 0) (j := 1) rfl sc_divisor_of.nd (pda_cons (pd_var 1) (pda_cons (pd_mod (pd_var 0) (pd_var 1)) pda_nil)))))
      (ds_one (ds_ret (pd_var 0))))), ?_⟩
  rintro ds μ Q ⟨a, b, rfl, q⟩
  walk_at "d0"
  walk_at "dx"
  refine ⟨fun m ρ μ1 => μ1 = μ ∧ ∃ x y : Int, ρ = [some (.int x), some (.int y)] ∧ 0 ≤ x ∧ 0 ≤ y ∧ y.toNat = m ∧ Int.gcd x y = Int.gcd a b, ⟨_, rfl, _, _, rfl, by split <;> omega, by split <;> omega, rfl, gcd_abs⟩, ?_⟩
  rintro m ρ μ1 ⟨rfl, x, y, rfl, hx, hy, rfl, hg⟩
  walk_at "dx"
  by_cases hz : y = 0
  · subst hz
    simp only [decide_true, Bool.not_true, Bool.false_eq_true, if_false]
    have e : (Int.gcd a b : Int) = x := by rw [← hg, Int.gcd_zero_right]; omega
    rw [← e]
    exact q
  · simp only [hz, decide_false, Bool.not_false, if_true]
    have hp : 0 < y := by omega
    have h1 := Int.emod_nonneg x hz
    have h2 := Int.emod_lt_of_pos x hp
    exact ⟨hp, (x % y).toNat, by omega, y, x % y, rfl, by omega, h1, rfl, by rw [gcd_step hx hp]; exact hg⟩
theorem ok_law_divisor (T : Txt mg C) (F : Fun K "_law_divisor" "_law_divisor" s__law_divisor f fd) : FnG P w K mg base CX0 1 f fd ["_law_first", "_law_second"] (up K sp_gcd) := by
  refine okD F sc__law_divisor (fun ⟨a, b, e, _⟩ => by rw [e]; rfl) ?_
  rintro X ⟨cdv, A, outer, s, H, E, rfl⟩ hgu hr
  refine ⟨_, (ds_cons (ds_par (i := 0) (j := 1) rfl sc__law_divisor.nd (pda_cons (pd_abs T.abs (pd_var 0)) (pda_cons (pd_abs T.abs (pd_var 1)) pda_nil)))
      (ds_cons (ds_while PassesOwn.never (pt_ne hr (pd_var 1) pd_int) (ds_one (ds_par (i := 0) (j := 1) rfl sc__law_divisor.nd (pda_cons (pd_var 1) (pda_cons (pd_mod (pd_var 0) (pd_var 1)) pda_nil)))))
      (ds_one (ds_ret (pd_var 0))))), ?_⟩
  rintro ds μ Q ⟨a, b, rfl, q⟩
  walk_at "d0"
  walk_at "dx"
  refine ⟨fun m ρ μ1 => μ1 = μ ∧ ∃ x y : Int, ρ = [some (.int x), some (.int y)] ∧ 0 ≤ x ∧ 0 ≤ y ∧ y.toNat = m ∧ Int.gcd x y = Int.gcd a b, ⟨_, rfl, _, _, rfl, by split <;> omega, by split <;> omega, rfl, gcd_abs⟩, ?_⟩
  rintro m ρ μ1 ⟨rfl, x, y, rfl, hx, hy, rfl, hg⟩
  walk_at "dx"
  by_cases hz : y = 0
  · subst hz
    simp only [decide_true, Bool.not_true, Bool.false_eq_true, if_false]
    have e : (Int.gcd a b : Int) = x := by rw [← hg, Int.gcd_zero_right]; omega
    rw [← e]
    exact q
  · simp only [hz, decide_false, Bool.not_false, if_true]
    have hp : 0 < y := by omega
    have h1 := Int.emod_nonneg x hz
    have h2 := Int.emod_lt_of_pos x hp
    exact ⟨hp, (x % y).toNat, by omega, y, x % y, rfl, by omega, h1, rfl, by rw [gcd_step hx hp]; exact hg⟩
/-! ### Ratio -/
/-- fit for a divisor -/
def Fit (i : Int) : Prop := i ≠ 0 ∧ i.natAbs < 2 ^ 1000
theorem fit_sg {t b : Int} (h : Fit b) : sg t b ≠ 0 ∧ (sg t b).natAbs.log2 < 9000 := by
  obtain ⟨p, q, _, gn, _, e2, _, _⟩ := low_spec (t := t) h.1
  refine ⟨gn, ?_⟩
  have : (sg t b).natAbs ≤ b.natAbs := by
    have e := congrArg Int.natAbs e2
    rw [Int.natAbs_mul] at e
    rw [e]
    refine Nat.le_mul_of_pos_left _ (Int.natAbs_pos.mpr fun z => h.1 ?_)
    rw [e2, z, Int.zero_mul]
  have k : (sg t b).natAbs < 2 ^ 1000 := Nat.lt_of_le_of_lt this h.2
  have n0 : (sg t b).natAbs ≠ 0 := Int.natAbs_ne_zero.mpr gn
  exact Nat.lt_trans ((Nat.log2_lt n0).mpr k) (by decide)
def sp_init (C : Addr) : SpD := fun ds μ Q => ∃ (a : Addr) (t b : Int), ds = [.ref a, .int t, .int b] ∧ μ a = some (.ins C []) ∧ Fit b ∧ Q .non (mup μ a (.ins C [("top", .int (low t b).1), ("bottom", .int (low t b).2)]))
theorem ok_init (T : Txt mg C) (cl_Ratio : Cls K C) (na_Ratio_top : NoAttr K C "top") (na_Ratio_bottom : NoAttr K C "bottom") {f1 fd1 ps1} (c_divisor_of : Cl P w K mg base 1 "divisor_of" f1 fd1 ps1 sp_gcd) {dvs : List V} {kws : List (Str × V)}
    (F : FunD K "__init__" "Ratio.__init__" (defArgs s_Ratio___init__) (defBody s_Ratio___init__) (defScope s_Ratio___init__) dvs kws f fd) : FnG P w K mg base CX0 2 f fd ["self", "top", "bottom"] (up K (sp_init C)) := by
  refine okDD F sc_Ratio___init__ (fun ⟨a, t, b, e, _⟩ => by rw [e]; rfl) ?_
  rintro X ⟨cdv, A, outer, s, H, E, rfl⟩ hgu hr
  refine ⟨_, (ds_cons (ds_set (i := 3) sc_Ratio___init__.nd (pd_call c_divisor_of hr hgu (pda_cons (pd_var 1) (pda_cons (pd_var 2) pda_nil))))
      (ds_cons (ds_set (i := 3) sc_Ratio___init__.nd (pd_if (pt_lt hr (pd_var 2) pd_int) (pd_neg (pd_var 3)) (pd_var 3)))
      (ds_cons (ds_fld cl_Ratio na_Ratio_top (pd_var 0) (pd_divA (pd_var 1) (pd_var 3)))
      (ds_one (ds_fld cl_Ratio na_Ratio_bottom (pd_var 0) (pd_divA (pd_var 2) (pd_var 3))))))), ?_⟩
  rintro ds μ Q ⟨a, t, b, rfl, ha, fb, q⟩
  walk_at "d0"
  walk_at "dx"
  refine ⟨t, b, rfl, ?_⟩
  have go : ∀ g : Int, g = sg t b → (g ≠ 0 ∧ g.natAbs.log2 < 9000) ∧ gSetF C "top" (.ref a) (.int (Int.fdiv t g)) μ fun μ3 => (g ≠ 0 ∧ g.natAbs.log2 < 9000) ∧ gSetF C "bottom" (.ref a) (.int (Int.fdiv b g)) μ3 fun μ4 => Q .non μ4 := by
    rintro g rfl
    refine ⟨fit_sg fb, a, [], rfl, ha, by decide, fit_sg fb, a, _, rfl, mup_same, (by show 1 < 1000; decide), ?_⟩
    have e : mup (mup μ a (.ins C (putD "top" (.int (Int.fdiv t (sg t b))) []))) a (.ins C (putD "bottom" (.int (Int.fdiv b (sg t b))) (putD "top" (.int (Int.fdiv t (sg t b))) []))) = mup μ a (.ins C [("top", .int (low t b).1), ("bottom", .int (low t b).2)]) := by
      funext z
      unfold mup
      simp only [putD, tb, if_false]
      split <;> first | rfl | (split <;> first | rfl | contradiction)
    rw [e]
    exact q
  by_cases hb : b < 0
  · simp only [hb, decide_true, if_true]
    exact go _ (by unfold sg; rw [if_pos hb])
  · simp only [hb, decide_false, Bool.false_eq_true, if_false]
    exact go _ (by unfold sg; rw [if_neg hb])
theorem dA_bl {p : Bool} {μ : Mu} {R : Mu → Prop} {t : Mu → Prop} : (match D.bl p with | .bl true => t μ | .bl false => R μ | _ => False) = (if p = true then t μ else R μ) := by cases p <;> rfl
def sp_eq (C : Addr) : SpD := fun ds μ Q => (∃ a b c d : Int, ds = [rat C a b, rat C c d] ∧ Q (.bl (decide (a = c) && decide (b = d))) μ) ∨ ∃ (a b : Int) (y : D) (t : Ty), ds = [rat C a b, y] ∧ tyD μ y = some t ∧ (∀ C', t ≠ .own C') ∧ Q (.bl false) μ
theorem ok_eq (T : Txt mg C) (cl_Ratio : Cls K C) (na_Ratio_top : NoAttr K C "top") (na_Ratio_bottom : NoAttr K C "bottom") (ia_Ratio : IsA K (.ref C) (ansO fun C' => if C' = C then some true else none))
    (F : Fun K "__eq__" "Ratio.__eq__" s_Ratio___eq__ f fd) : FnG P w K mg base CX0 1 f fd ["self", "other"] (up K (sp_eq C)) := by
  refine okD F sc_Ratio___eq__ (fun h => by rcases h with ⟨a, b, c, d, e, _⟩ | ⟨a, b, y, t, e, _⟩ <;> (rw [e]; rfl)) ?_
  rintro X ⟨cdv, A, outer, s, H, E, rfl⟩ hgu hr
  refine ⟨_, (ds_one (ds_ret (pd_and (pd_isi ia_Ratio clsv_own T.isinstance (pda_cons (pd_var 1) (pda_cons (pd_gref T.Ratio) pda_nil))) (pd_and (pd_eq hr (pd_fld cl_Ratio na_Ratio_top (pd_var 0)) (pd_fld cl_Ratio na_Ratio_top (pd_var 1))) (pd_one (pd_eq hr (pd_fld cl_Ratio na_Ratio_bottom (pd_var 0)) (pd_fld cl_Ratio na_Ratio_bottom (pd_var 1)))))))), ?_⟩
  rintro ds μ Q (⟨a, b, c, d, rfl, q⟩ | ⟨a, b, y, t, rfl, ht, hn, q⟩)
  walk_at "d0"
  · walk_at "dx"
    simp only [fld_top, fld_bottom]
    walk_at "dx"
    by_cases h1 : a = c
    · simp only [h1, decide_true]
      simpa [h1] using q
    · simp only [h1, decide_false]
      simpa [h1] using q
  · walk_at "dx"
    refine ⟨rfl, t, false, ht, ?_, q⟩
    cases t <;> first | rfl | exact absurd rfl (hn _)
def sp_less (C : Addr) : SpD := fun ds μ Q => ∃ a b c d : Int, ds = [rat C a b, rat C c d] ∧ CMul a d ∧ CMul c b ∧ Q (.bl (decide (a * d < c * b))) μ
theorem ok_less (T : Txt mg C) (cl_Ratio : Cls K C) (na_Ratio_top : NoAttr K C "top") (na_Ratio_bottom : NoAttr K C "bottom") (F : Fun K "is_less" "Ratio.is_less" s_Ratio_is_less f fd) : FnG P w K mg base CX0 1 f fd ["self", "other"] (up K (sp_less C)) := by
  refine okD F sc_Ratio_is_less (fun ⟨a, b, c, d, e, _⟩ => by rw [e]; rfl) ?_
  rintro X ⟨cdv, A, outer, s, H, E, rfl⟩ hgu hr
  refine ⟨_, (ds_one (ds_ret (pd_lt hr (pd_mul (pd_fld cl_Ratio na_Ratio_top (pd_var 0)) (pd_fld cl_Ratio na_Ratio_bottom (pd_var 1))) (pd_mul (pd_fld cl_Ratio na_Ratio_top (pd_var 1)) (pd_fld cl_Ratio na_Ratio_bottom (pd_var 0)))))), ?_⟩
  rintro ds μ Q ⟨a, b, c, d, rfl, h1, h2, q⟩
  walk_at "d0"
  walk_at "dx"
  simp only [fld_top, fld_bottom]
  walk_at "dx"
  exact ⟨h1, h2, q⟩
/-- what an operator makes: the numbers of the new one -/
def sp_op (C : Addr) (g h : Int → Int → Int → Int → Int) : SpD := fun ds μ Q => ∃ a b c d : Int, ds = [rat C a b, rat C c d] ∧ a.natAbs < 2 ^ 64 ∧ b.natAbs < 2 ^ 64 ∧ c.natAbs < 2 ^ 64 ∧ d.natAbs < 2 ^ 64 ∧ Fit (h a b c d) ∧ Q (rat C (low (g a b c d) (h a b c d)).1 (low (g a b c d) (h a b c d)).2) μ
theorem cm {i j : Int} (h : i.natAbs < 2 ^ 64) : CMul i j := .inl ⟨by omega, by omega⟩
theorem mk_done {μ : Mu} {t b : Int} {ix : List Nat} {ds : List D} {Q : DQ} (fb : Fit b) (q : Q (rat C (low t b).1 (low t b).2) μ) (hp : ∀ a, pick ix (.ref a :: ds) = [.ref a, .int t, .int b] := by intro _; rfl) : gMake C (sp_init C) ix ds μ Q := by
  intro a ha
  rw [hp]
  refine ⟨a, t, b, rfl, mup_same, fb, rfl, _, mup_same, ?_⟩
  have e : mdel (mup (mup μ a (.ins C [])) a (.ins C [("top", .int (low t b).1), ("bottom", .int (low t b).2)])) a = μ := by
    funext z
    unfold mdel mup
    split
    · rename_i e; rw [e, ha]
    · rfl
  rw [e]
  exact q
theorem ok_add (T : Txt mg C) (cl_Ratio : Cls K C) (na_Ratio_top : NoAttr K C "top") (na_Ratio_bottom : NoAttr K C "bottom") (k_Ratio_2 : Ctor P w K mg base 2 "Ratio" C (sp_init C) 2 [] [.int 1] [0, 1, 2])
    (F : Fun K "__add__" "Ratio.__add__" s_Ratio___add__ f fd) : FnG P w K mg base CX0 4 f fd ["self", "other"] (up K (sp_op C (fun a b c d => a * d + c * b) fun a b c d => b * d)) := by
  refine okD F sc_Ratio___add__ (fun ⟨a, b, c, d, e, _⟩ => by rw [e]; rfl) ?_
  rintro X ⟨cdv, A, outer, s, H, E, rfl⟩ hgu hr
  refine ⟨_, (ds_one (ds_ret (pd_mk k_Ratio_2 hr hgu (pdc_p (pda_cons (pd_add (pd_mul (pd_fld cl_Ratio na_Ratio_top (pd_var 0)) (pd_fld cl_Ratio na_Ratio_bottom (pd_var 1))) (pd_mul (pd_fld cl_Ratio na_Ratio_top (pd_var 1)) (pd_fld cl_Ratio na_Ratio_bottom (pd_var 0)))) (pda_cons (pd_mul (pd_fld cl_Ratio na_Ratio_bottom (pd_var 0)) (pd_fld cl_Ratio na_Ratio_bottom (pd_var 1))) pda_nil)))))), ?_⟩
  rintro ds μ Q ⟨a, b, c, d, rfl, h1, h2, h3, h4, fb, q⟩
  walk_at "d0"
  walk_at "dx"
  simp only [fld_top, fld_bottom]
  walk_at "dx"
  exact ⟨cm h1, cm h3, cm h2, mk_done fb q⟩
theorem ok_sub (T : Txt mg C) (cl_Ratio : Cls K C) (na_Ratio_top : NoAttr K C "top") (na_Ratio_bottom : NoAttr K C "bottom") (k_Ratio_2 : Ctor P w K mg base 2 "Ratio" C (sp_init C) 2 [] [.int 1] [0, 1, 2])
    (F : Fun K "__sub__" "Ratio.__sub__" s_Ratio___sub__ f fd) : FnG P w K mg base CX0 4 f fd ["self", "other"] (up K (sp_op C (fun a b c d => a * d - c * b) fun a b c d => b * d)) := by
  refine okD F sc_Ratio___sub__ (fun ⟨a, b, c, d, e, _⟩ => by rw [e]; rfl) ?_
  rintro X ⟨cdv, A, outer, s, H, E, rfl⟩ hgu hr
  refine ⟨_, (ds_one (ds_ret (pd_mk k_Ratio_2 hr hgu (pdc_p (pda_cons (pd_sub (pd_mul (pd_fld cl_Ratio na_Ratio_top (pd_var 0)) (pd_fld cl_Ratio na_Ratio_bottom (pd_var 1))) (pd_mul (pd_fld cl_Ratio na_Ratio_top (pd_var 1)) (pd_fld cl_Ratio na_Ratio_bottom (pd_var 0)))) (pda_cons (pd_mul (pd_fld cl_Ratio na_Ratio_bottom (pd_var 0)) (pd_fld cl_Ratio na_Ratio_bottom (pd_var 1))) pda_nil)))))), ?_⟩
  rintro ds μ Q ⟨a, b, c, d, rfl, h1, h2, h3, h4, fb, q⟩
  walk_at "d0"
  walk_at "dx"
  simp only [fld_top, fld_bottom]
  walk_at "dx"
  exact ⟨cm h1, cm h3, cm h2, mk_done fb q⟩
theorem ok_mul (T : Txt mg C) (cl_Ratio : Cls K C) (na_Ratio_top : NoAttr K C "top") (na_Ratio_bottom : NoAttr K C "bottom") (k_Ratio_2 : Ctor P w K mg base 2 "Ratio" C (sp_init C) 2 [] [.int 1] [0, 1, 2])
    (F : Fun K "__mul__" "Ratio.__mul__" s_Ratio___mul__ f fd) : FnG P w K mg base CX0 4 f fd ["self", "other"] (up K (sp_op C (fun a b c d => a * c) fun a b c d => b * d)) := by
  refine okD F sc_Ratio___mul__ (fun ⟨a, b, c, d, e, _⟩ => by rw [e]; rfl) ?_
  rintro X ⟨cdv, A, outer, s, H, E, rfl⟩ hgu hr
  refine ⟨_, (ds_one (ds_ret (pd_mk k_Ratio_2 hr hgu (pdc_p (pda_cons (pd_mul (pd_fld cl_Ratio na_Ratio_top (pd_var 0)) (pd_fld cl_Ratio na_Ratio_top (pd_var 1))) (pda_cons (pd_mul (pd_fld cl_Ratio na_Ratio_bottom (pd_var 0)) (pd_fld cl_Ratio na_Ratio_bottom (pd_var 1))) pda_nil)))))), ?_⟩
  rintro ds μ Q ⟨a, b, c, d, rfl, h1, h2, h3, h4, fb, q⟩
  walk_at "d0"
  walk_at "dx"
  simp only [fld_top, fld_bottom]
  walk_at "dx"
  exact ⟨cm h1, cm h2, mk_done fb q⟩
def sp_bool (C : Addr) : SpD := fun ds μ Q => ∃ a b : Int, ds = [rat C a b] ∧ Q (.bl (a != 0)) μ
theorem ok_bool (T : Txt mg C) (cl_Ratio : Cls K C) (na_Ratio_top : NoAttr K C "top") (F : Fun K "__bool__" "Ratio.__bool__" s_Ratio___bool__ f fd) : FnG P w K mg base CX0 1 f fd ["self"] (up K (sp_bool C)) := by
  refine okD F sc_Ratio___bool__ (fun ⟨a, b, e, _⟩ => by rw [e]; rfl) ?_
  rintro X ⟨cdv, A, outer, s, H, E, rfl⟩ hgu hr
  refine ⟨_, (ds_one (ds_ret (pd_boolI T.bool (pd_fld cl_Ratio na_Ratio_top (pd_var 0))))), ?_⟩
  rintro ds μ Q ⟨a, b, rfl, q⟩
  walk_at "d0"
  walk_at "dx"
  simp only [fld_top]
  walk_at "dx"
  exact q
/-! ### texts -/
theorem empty_app (x : Str) : Str.empty ++ x = x := by
  cases x
  show Str.mk _ = _
  simp [Str.empty]
def txt (a b : Int) : Str := if b = 1 then (toString a : String) else ((toString a : String) : Str) ++ ("/" : Str) ++ ((toString b : String) : Str)
theorem log_of {i : Int} {k : Nat} (hk : 0 < k) (h : i.natAbs < 2 ^ k) : i.natAbs.log2 < k := by
  by_cases z : i.natAbs = 0
  · rw [z]; exact hk
  · exact (Nat.log2_lt z).mpr h
theorem len_int {i : Int} (h : i.natAbs < 2 ^ 200) : (Str.ofString (toString i)).length ≤ 201 := by
  rw [PySem.ofString_length]
  exact int_text_length_le (by decide) (log_of (by decide) h)
theorem len_app (x y : Str) : (x ++ y).length = x.length + y.length := by
  show (x.cps ++ y.cps).size = x.cps.size + y.cps.size
  exact Array.size_append
theorem len_sl : (("/" : Str)).length = 1 := by decide +kernel
def sp_str (C : Addr) : SpD := fun ds μ Q => ∃ a b : Int, ds = [rat C a b] ∧ a.natAbs < 2 ^ 200 ∧ b.natAbs < 2 ^ 200 ∧ Q (.str (txt a b)) μ
theorem ok_str (T : Txt mg C) (cl_Ratio : Cls K C) (na_Ratio_top : NoAttr K C "top") (na_Ratio_bottom : NoAttr K C "bottom") (F : Fun K "__str__" "Ratio.__str__" s_Ratio___str__ f fd) : FnG P w K mg base CX0 1 f fd ["self"] (up K (sp_str C)) := by
  refine okD F sc_Ratio___str__ (fun ⟨a, b, e, _⟩ => by rw [e]; rfl) ?_
  rintro X ⟨cdv, A, outer, s, H, E, rfl⟩ hgu hr
  refine ⟨_, (ds_cons (ds_if (pt_eq hr (pd_fld cl_Ratio na_Ratio_bottom (pd_var 0)) pd_int) (ds_one (ds_ret (pd_strI T.str (pd_fld cl_Ratio na_Ratio_top (pd_var 0))))) ds_nil)
      (ds_one (ds_ret (pd_joined (.cons (pd_fmt (pd_fld cl_Ratio na_Ratio_top (pd_var 0))) (.cons pd_str (.cons (pd_fmt (pd_fld cl_Ratio na_Ratio_bottom (pd_var 0))) .nil))))))), ?_⟩
  rintro ds μ Q ⟨a, b, rfl, ha, hb, q⟩
  walk_at "d0"
  walk_at "dx"
  simp only [fld_top, fld_bottom]
  walk_at "dx"
  have l1 := len_int ha
  have l2 := len_int hb
  have la := Nat.lt_trans (log_of (by decide) ha) (show 200 < 1920 by decide)
  have lb := Nat.lt_trans (log_of (by decide) hb) (show 200 < 1920 by decide)
  unfold txt at q
  by_cases h : b = 1
  · simp only [h, decide_true, if_true]
    rw [if_pos h] at q
    exact ⟨la, q⟩
  · simp only [h, decide_false, Bool.false_eq_true, if_false]
    rw [if_neg h] at q
    refine ⟨la, ?_, ?_, lb, ?_, ?_⟩
    · rw [empty_app]; exact sz (by omega)
    · rw [empty_app, len_app, len_sl]; exact sz (by omega)
    · rw [empty_app, len_app, len_app, len_sl]; exact sz (by omega)
    · rw [empty_app]; exact q
end
end K72

namespace K72
open PySem PySem.Spec PyProof.Rows L2 Dl M72
section
variable {P : Program} {w : World} {K : PySem.W.Frag} {mg : Str → Option Value} {base : Heap} {f C : Addr} {fd : FuncData}
local macro_rules | `(tactic| walk_at "dd") => `(tactic| try simp only [dSeq, dNext, dRet, dIf, dAsg, dPar, dName, dGTup, dGCons, dGNil, dOp, dVar, slot, dC, dB, dAndT, dOrT, dNotT, dIfE, dAnd, dOr, dTup, dLst, dCons, dNil, dCall, dCallK, dCB, dUn, dSl, dNo, dSome, startD, dM0,
  gEq_int, gNe_int, gEq_bl, gEq_str, gNe_str, gLt_int, gGt_int, gLe_int, gGe_int, gAdd_int, gSub_int, gMul_int, gMod_int, gDiv_int, gPow_int, gNeg_int, gNot_bl, gIs_bl, gIx_t0, gIx_t1, gIx_t2, gLen_l, gLen_t, gSl_l, gSl_sq, gSl_t, gRev_l, gRev_t, gRevM_l, gList_l, gList_sq, gList_t, gMax2_int, gRepr_l, gRepr_t,
  List.map, List.replicate, List.length, List.set, List.cons_append, List.nil_append, List.append, Nat.sub, Nat.reduceSub, Nat.reduceAdd, true_and, and_true, if_true, if_false, decide_true, decide_false, Bool.not_true, Bool.not_false, Bool.false_eq_true, reduceIte])
local macro_rules | `(tactic| walk_at "d0") => `(tactic| try simp only [startD, List.map, List.replicate, List.length, List.cons_append, List.nil_append, List.append, Nat.sub, Nat.reduceSub, Nat.reduceAdd])
local macro_rules | `(tactic| walk_at "dx") => `(tactic| try simp only [↓s_seq, ↓s_next, ↓s_brk, ↓s_cnt, ↓s_retN, ↓s_ret, ↓s_drop, ↓s_if, ↓s_asg, ↓s_par, ↓s_par2, ↓s_tup, ↓s_gnil, ↓s_gcons, ↓s_op, ↓s_c, ↓s_b, ↓s_bB, ↓s_andT, ↓s_orT, ↓s_notT, ↓s_ifE, ↓s_and, ↓s_or, ↓s_bAnd, ↓s_bOr, ↓s_etup, ↓s_lst, ↓s_nil, ↓s_cons, ↓s_call, ↓s_callB, ↓s_cb, ↓s_un, ↓s_m0, ↓s_len, ↓s_both, ↓s_fld, ↓s_setF, ↓s_make, ↓s_makeM, ↓s_meth, ↓s_prop, ↓s_orV, ↓s_sl, ↓s_no, ↓s_some, ↓s_bSome, ↓s_fmt, ↓s_fmtS, ↓s_fmtI, ↓s_join, ↓s_js0, ↓s_js1, ↓s_bJs, ↓s_sub, ↓s_yes, ↓p_nil, ↓v_0, ↓v_1, ↓v_2, ↓v_3, ↓v_4, ↓v_5, ↓v_6, ↓v_7, ↓v_8, ↓v_9, ↓v_10, ↓v_11, ↓v_12, ↓v_13, ↓v_14, ↓v_15, ↓v_16, ↓v_17, ↓n_0, ↓n_1, ↓n_2, ↓n_3, ↓n_4, ↓n_5, ↓n_6, ↓n_7, ↓n_8, ↓n_9, ↓n_10, ↓n_11, ↓n_12, ↓n_13, ↓n_14, ↓n_15, ↓n_16, ↓n_17, ↓p_0, ↓p_1, ↓p_2, ↓p_3, ↓p_4, ↓p_5, ↓p_6, ↓p_7, ↓ex_some, ↓ex_bl, ↓gEq_int, ↓gNe_int, ↓gEq_bl, ↓gNe_bl, ↓gEq_str, ↓gNe_str, ↓gLt_int, ↓gGt_int, ↓gLe_int, ↓gGe_int, ↓gAdd_int, ↓gAdd_str, ↓gAdd_t, ↓gAdd_l, ↓gEq_nil, ↓gNe_nil0, ↓gSub_int, ↓gMul_int, ↓gMod_int, ↓gDiv_int, ↓gPow_int, ↓gNeg_int, ↓gNot_bl, ↓gIs_bl, ↓gIx_t0, ↓gIx_t1, ↓gIx_t2, ↓gLen_l, ↓gLen_t, ↓gSl_l, ↓gSl_sq, ↓gSl_t, ↓gRev_l, ↓gRev_t, ↓gRevM_l, ↓gList_l, ↓gList_sq, ↓gList_t, ↓gMax2_int, ↓gRepr_l, ↓gRepr_t, ↓gAbs_int, ↓gDivA_int, ↓gMulW_int, ↓gStrI_int, ↓gBoolI_int, ↓gBoolI_bl, ↓gTuple_l, ↓gTuple_t, ↓gIsi_non, ↓gIsi_bl, ↓gIsi_int, ↓gIsi_str, ↓gIsi_lst, ↓gIsi_tup, ↓gIsi_obj, ↓gDun_obj, ↓gOne_obj, ↓isBl_bl, ↓isStr_str, ansB, ansO, List.length, List.cons_append, List.nil_append, List.append, Nat.reduceAdd, true_and, and_true, if_true, if_false, decide_true, decide_false, Bool.not_true, Bool.not_false, Bool.false_eq_true, reduceIte])

/-! ### the deck -/
theorem cut63 {ns : List Int} (h : ns.length ≤ 63) : cutD (ns.map D.int) none (some 63) = ns.map D.int := by
  have e : HT.sIx (ns.map D.int).length (ns.map D.int).length (some 63) = min 63 (ns.map D.int).length := HT.sIx_nat _ _ 63
  unfold Dl.cutD
  rw [e, HT.sIx_none, List.drop_zero, Nat.sub_zero, List.length_map, Nat.min_eq_right h, List.take_of_length_le (by rw [List.length_map]; exact Nat.le_refl _)]
theorem ok_deck (T : Txt mg C) (F : Fun K "_law_deck" "_law_deck" s__law_deck f fd) : FnG P w K mg base CX0 1 f fd ["_law_script"] (up K sp_deck) := by
  refine okD F sc__law_deck (fun ⟨ns, e, _⟩ => by rw [e]; rfl) ?_
  rintro X ⟨cdv, A, outer, s, H, E, rfl⟩ hgu hr
  refine ⟨_, (ds_cons (ds_par (i := 1) (j := 2) rfl sc__law_deck.nd (pda_cons (pd_list T.list (by decide +kernel) (pd_slice (pd_var 0) pdo_none (pdo_some pd_int))) (pda_cons pd_int pda_nil)))
      (ds_cons (ds_for PassesOwn.never rfl (di_list (pd_var 1)) (dg_name (i := 3) sc__law_deck.nd) (ds_one (ds_set (i := 2) sc__law_deck.nd (pd_mod (pd_add (pd_add (pd_mul (pd_var 2) pd_int) (pd_mod (pd_var 3) pd_int)) pd_int) pd_int))))
      (ds_one (ds_ret (pd_lstM (pda_cons (pd_revM (pd_var 1)) (pda_cons (pd_var 2) (pda_cons pd_int pda_nil)))))))), ?_⟩
  rintro ds μ Q ⟨ns, rfl, hl, q⟩
  walk_at "dd"
  rw [cut63 hl]
  simp only [dFor, dRow, dVar, slot]
  refine ⟨fun i ρ μ1 => μ1 = μ ∧ ∃ (m : Int) (v : Option D), ρ = [some (.sq (ns.map .int)), some (.lst (ns.map .int)), some (.int m), v] ∧ 0 ≤ m ∧ m < 2147483648, ⟨rfl, _, none, rfl, by decide, by decide⟩, fun _ _ _ _ => trivial, ?_, ?_⟩
  · rintro i x ρ μ1 hx ⟨rfl, m, v, rfl, h0, h1⟩
    rw [List.getElem?_map] at hx
    obtain ⟨z, _, rfl⟩ := Option.map_eq_some_iff.mp hx
    walk_at "dd"
    refine ⟨.inr ⟨by decide, by decide⟩, by decide, by decide, _, _, rfl, Int.emod_nonneg _ (by decide), ?_⟩
    exact Int.lt_trans (Int.emod_lt_of_pos _ (show (0 : Int) < 2147483587 by decide)) (by decide)
  · rintro ρ μ1 ⟨rfl, m, v, rfl, h0, h1⟩
    simp only [dRet, dLstM, dCons, dNil, dUn, dVar, slot, dC, gRevM_l]
    refine fun c hc => ⟨by show 3 ≤ sizeLine; decide, fun d hd => ?_⟩
    have ne : d ≠ c := fun e => by rw [e, mup_same] at hd; cases hd
    rw [mup_ne ne] at hd
    refine q _ d c hd hc ⟨ns.reverse, m, 0, mup_same, ?_, ne, ?_, h0, h1, by decide, by decide⟩ fun b h1 h2 => ?_
    · rw [mup_ne ne.symm, mup_same, List.map_reverse]
    · rw [List.length_reverse]; exact hl
    · rw [mup_ne h1, mup_ne h2]
theorem sq_lt {x : Int} : CMul (x % 2147483647) (x % 2147483647) := by
  have h1 := Int.emod_nonneg x (show (2147483647 : Int) ≠ 0 by decide)
  have h2 := Int.emod_lt_of_pos x (show (0 : Int) < 2147483647 by decide)
  exact .inl ⟨by omega, by omega⟩
theorem getLast_ints {cells : List Int} (h : cells ≠ []) : ∃ z, (cells.map D.int)[(cells.map D.int).length - 1]? = some (.int z) ∧ (cells.map D.int).dropLast = (cells.dropLast).map D.int := by
  refine ⟨cells.getLast h, ?_, by rw [List.map_dropLast]⟩
  rw [List.length_map, List.getElem?_map, ← List.getLast?_eq_getElem?, List.getLast?_eq_some_getLast h]
  rfl
theorem ok_draw (T : Txt mg C) (F : Fun K "_law_draw" "_law_draw" s__law_draw f fd) : FnG P w K mg base CX0 1 f fd ["_law_deck_here", "_law_many"] (up K sp_draw) := by
  refine okD F sc__law_draw (fun ⟨d, c, m, n, e, _⟩ => by rw [e]; rfl) ?_
  rintro X ⟨cdv, A, outer, s, H, E, rfl⟩ hgu hr
  refine ⟨_, (ds_cons (ds_asg (pd_add (pd_at (pd_var 0) pd_int) pd_int) (dg_sub (pd_var 0) pd_int))
      (ds_cons (ds_set (i := 2) sc__law_draw.nd (pd_at (pd_var 0) pd_int))
      (ds_cons (ds_if (pt_ne hr (pd_at (pd_var 0) pd_int) (pd_lst pda_nil)) (ds_cons (ds_set (i := 2) sc__law_draw.nd (pd_pop (pd_at (pd_var 0) pd_int)))
      (ds_cons (ds_if (pt_ge hr (pd_var 2) (pd_pow pd_int pd_int)) (ds_cons (ds_expr (pd_append (pd_at (pd_var 0) pd_int) (pda_cons (pd_div (pd_var 2) (pd_var 1)) pda_nil)))
      (ds_one (ds_ret (pd_mod (pd_var 2) (pd_var 1))))) ds_nil)
      (ds_one (ds_set (i := 2) sc__law_draw.nd (pd_add (pd_var 2) (pd_at (pd_var 0) pd_int)))))) ds_nil)
      (ds_cons (ds_set (i := 3) sc__law_draw.nd (pd_mod (pd_mul (pd_add (pd_add (pd_mod (pd_var 2) pd_int) (pd_mul (pd_mul pd_int (pd_at (pd_var 0) pd_int)) (pd_at (pd_var 0) pd_int))) pd_int) pd_int) pd_int))
      (ds_cons (ds_set (i := 3) sc__law_draw.nd (pd_mod (pd_add (pd_add (pd_mul (pd_var 3) (pd_var 3)) (pd_mul pd_int (pd_at (pd_var 0) pd_int))) pd_int) pd_int))
      (ds_one (ds_ret (pd_mod (pd_div (pd_mod (pd_mul (pd_var 3) pd_int) pd_int) pd_int) (pd_var 1))))))))), ?_⟩
  rintro ds μ Q ⟨d, c, many, n, rfl, h0, h1, ⟨cells, m, t, hd, hc, ne, hl, m0, m1, t0, t1⟩, hn, q⟩
  walk_at "dd"
  simp only [dSub, gIx_r2 hd, gSet_2 hd, dOp, dVar, dC, slot, gAdd_int]
  have hd1 : (mup μ d (.lst [.ref c, .int m, .int (t + 1)])) d = some (.lst [.ref c, .int m, .int (t + 1)]) := mup_same
  have hc1 : (mup μ d (.lst [.ref c, .int m, .int (t + 1)])) c = some (.lst (cells.map .int)) := (mup_ne ne.symm).trans hc
  have b1 : But d c μ (mup μ d (.lst [.ref c, .int m, .int (t + 1)])) := fun b h1 h2 => mup_ne h1
  revert hd1 hc1 b1
  generalize mup μ d (.lst [.ref c, .int m, .int (t + 1)]) = μ1
  intro hd1 hc1 b1
  simp only [dSeq, dNext, dIf, dAsg, dName, dOp, dVar, slot, dC, dB, dLst, dNil, gIx_r1 hd1, gIx_r0 hd1, List.set, gNe_nil hc1, List.length, Nat.zero_le, true_and]
  by_cases hz : cells = []
  · subst hz
    simp only [List.isEmpty_nil, Bool.not_true, Bool.false_eq_true, if_false]
    simp only [dRet, gIx_r2 hd1, gMul_int, gMod_int, gAdd_int, gDiv_int, dOp, dVar, slot, dC, List.set]
    refine ⟨by decide, .inl ⟨by decide, by decide⟩, .inr ⟨by omega, by omega⟩, .inr ⟨by decide, by decide⟩, by decide, sq_lt, .inl ⟨by decide, by decide⟩, by decide, .inr ⟨by decide, by decide⟩, by decide, ⟨by decide, by decide⟩, h0, ?_⟩
    exact q _ _ (Int.emod_nonneg _ (by omega)) (Int.emod_lt_of_pos _ h0) ⟨[], m, t + 1, hd1, hc1, ne, hl, m0, m1, by omega, by omega⟩ b1
  · obtain ⟨z, ez, ed⟩ := getLast_ints hz
    have e1 : (!cells.isEmpty) = true := by cases cells with | nil => exact absurd rfl hz | cons _ _ => rfl
    simp only [e1, if_true, dM0, dOp, dVar, slot, dC, List.set, gIx_r0 hd1, gPop_ref hc1 ez, ed, gGe_int, gPow_int]
    have hd2 : (mup μ1 c (.lst (cells.dropLast.map .int))) d = some (.lst [.ref c, .int m, .int (t + 1)]) := (mup_ne ne).trans hd1
    have hc2 : (mup μ1 c (.lst (cells.dropLast.map .int))) c = some (.lst (cells.dropLast.map .int)) := mup_same
    have b2 : But d c μ (mup μ1 c (.lst (cells.dropLast.map .int))) := fun b h1 h2 => (mup_ne h2).trans (b1 b h1 h2)
    have l2 : cells.dropLast.length + 1 = cells.length := by
      rw [List.length_dropLast]
      have : 0 < cells.length := List.length_pos_iff.mpr hz
      omega
    revert hd2 hc2 b2
    generalize mup μ1 c (.lst (cells.dropLast.map .int)) = μ2
    intro hd2 hc2 b2
    refine ⟨⟨by decide, by decide, by decide⟩, ?_⟩
    by_cases hb : (10 : Int) ^ (18 : Int).toNat ≤ z
    · simp only [hb, decide_true, if_true, dDrop, dM, dOp, dVar, slot, dC, dCons, dNil, gIx_r0 hd2, gDiv_int, gAppend_ref hc2, dRet, gMod_int]
      refine ⟨⟨c, _, rfl, hc2⟩, ⟨h0, h1⟩, Nat.lt_of_le_of_lt (show _ ≤ 63 by rw [List.length_map]; omega) (by decide), h0, ?_⟩
      refine q _ _ (Int.emod_nonneg _ (by omega)) (Int.emod_lt_of_pos _ h0) ⟨cells.dropLast ++ [z / many], m, t + 1, (mup_ne ne).trans hd2, ?_, ne, ?_, m0, m1, by omega, by omega⟩ fun b g1 g2 => (mup_ne g2).trans (b2 b g1 g2)
      · rw [mup_same, List.map_append]; rfl
      · rw [List.length_append]; show _ + 1 ≤ 63; omega
    · simp only [hb, decide_false, Bool.false_eq_true, if_false, dRet, gIx_r2 hd2, gIx_r1 hd2, gMul_int, gMod_int, gAdd_int, gDiv_int, dOp, dVar, slot, dC, List.set]
      refine ⟨by decide, .inl ⟨by decide, by decide⟩, .inr ⟨by omega, by omega⟩, .inr ⟨by decide, by decide⟩, by decide, sq_lt, .inl ⟨by decide, by decide⟩, by decide, .inr ⟨by decide, by decide⟩, by decide, ⟨by decide, by decide⟩, h0, ?_⟩
      exact q _ _ (Int.emod_nonneg _ (by omega)) (Int.emod_lt_of_pos _ h0) ⟨cells.dropLast, m, t + 1, hd2, hc2, ne, by omega, m0, m1, by omega, by omega⟩ b2
theorem ok_pick (T : Txt mg C) {f1 fd1 ps1} (c__law_draw : Cl P w K mg base 1 "_law_draw" f1 fd1 ps1 sp_draw) (F : Fun K "_law_pick" "_law_pick" s__law_pick f fd) : FnG P w K mg base CX0 2 f fd ["_law_deck_here", "_law_some"] (up K sp_pick) := by
  refine okD F sc__law_pick (fun ⟨d, c, m, n, e, _⟩ => by rw [e]; rfl) ?_
  rintro X ⟨cdv, A, outer, s, H, E, rfl⟩ hgu hr
  refine ⟨_, (ds_one (ds_ret (pd_at (pd_var 1) (pd_call c__law_draw hr hgu (pda_cons (pd_var 0) (pda_cons (pd_len T.len (pd_var 1)) pda_nil)))))), ?_⟩
  rintro ds μ Q ⟨d, c, xs, n, rfl, h0, h1, hd, hn, q⟩
  walk_at "dd"
  refine ⟨d, c, _, n, rfl, by omega, by omega, hd, hn, fun μ1 i i0 i1 hd1 b1 => ?_⟩
  obtain ⟨k, rfl⟩ := Int.eq_ofNat_of_zero_le i0
  have hk : k < xs.length := by omega
  rw [gIx_l (List.getElem?_eq_getElem hk)]
  exact q _ _ (List.getElem_mem hk) hd1 b1

/-! ### what is drawn -/
def okInt (B : Nat) (x : D) : Prop := ∃ i : Int, x = .int i ∧ i.natAbs ≤ B
def sp_whole : SpD := fun ds μ Q => ∃ (d c : Addr) (n : Nat), ds = [.ref d] ∧ Deck μ d c n ∧ n < 900000000 ∧ ∀ μ' i, i.natAbs ≤ 1000000000 → Deck μ' d c (n + 4) → But d c μ μ' → Q (.int i) μ'
theorem ok_whole (T : Txt mg C) {f1 fd1 ps1 f2 fd2 ps2} (c__law_draw : Cl P w K mg base 1 "_law_draw" f1 fd1 ps1 sp_draw) (c__law_pick : Cl P w K mg base 2 "_law_pick" f2 fd2 ps2 sp_pick) (F : Fun K "_law_whole" "_law_whole" s__law_whole f fd) :
    FnG P w K mg base CX0 3 f fd ["_law_deck_here"] (up K sp_whole) := by
  refine okD F sc__law_whole (fun ⟨d, c, n, e, _⟩ => by rw [e]; rfl) ?_
  rintro X ⟨cdv, A, outer, s, H, E, rfl⟩ hgu hr
  refine ⟨_, (ds_cons (ds_set (i := 1) sc__law_whole.nd (pd_pow pd_int pd_int))
      (ds_cons (ds_set (i := 2) sc__law_whole.nd (pd_lst (pda_cons pd_int (pda_cons pd_int (pda_cons (pd_neg pd_int) (pda_cons pd_int (pda_cons pd_int (pda_cons (pd_sub (pd_call c__law_draw hr hgu (pda_cons (pd_var 0) (pda_cons pd_int pda_nil))) pd_int) (pda_cons (pd_call c__law_draw hr hgu (pda_cons (pd_var 0) (pda_cons pd_int pda_nil))) (pda_cons (pd_var 1) (pda_cons (pd_neg (pd_var 1)) (pda_cons (pd_call c__law_draw hr hgu (pda_cons (pd_var 0) (pda_cons (pd_var 1) pda_nil))) pda_nil))))))))))))
      (ds_one (ds_ret (pd_call c__law_pick hr hgu (pda_cons (pd_var 0) (pda_cons (pd_var 2) pda_nil))))))), ?_⟩
  rintro ds μ Q ⟨d, c, n, rfl, hd, hn, q⟩
  walk_at "d0"
  walk_at "dx"
  refine ⟨⟨by decide, by decide, by decide⟩, d, c, _, n, rfl, by decide, by decide, hd, by omega, fun μ1 i1 a1 b1 hd1 w1 => ?_⟩
  walk_at "dx"
  refine ⟨d, c, _, n + 1, rfl, by decide, by decide, hd1, by omega, fun μ2 i2 a2 b2 hd2 w2 => ?_⟩
  walk_at "dx"
  refine ⟨d, c, _, n + 2, rfl, by decide, by decide, hd2, by omega, fun μ3 i3 a3 b3 hd3 w3 => ?_⟩
  walk_at "dx"
  refine ⟨sz (by decide), d, c, _, n + 3, rfl, by simp, by simp, hd3, by omega, fun μ4 x hx hd4 w4 => ?_⟩
  have h9 : (10 : Int) ^ (9 : Int).toNat = 1000000000 := by decide
  have hx' : okInt 1000000000 x := by
    rw [h9] at hx b3
    simp only [List.mem_cons, List.not_mem_nil, or_false] at hx
    rcases hx with rfl | rfl | rfl | rfl | rfl | rfl | rfl | rfl | rfl | rfl <;> exact ⟨_, rfl, by first | decide | omega⟩
  obtain ⟨i, rfl, hi⟩ := hx'
  exact q _ _ hi hd4 (((w1.trans w2).trans w3).trans w4)
/-- numbers of a ratio -/
def Wd (k : Nat) (x y : Int) : Prop := y ≠ 0 ∧ x.natAbs < 2 ^ k ∧ y.natAbs < 2 ^ k
end
end K72

namespace K72
open PySem PySem.Spec PyProof.Rows L2 Dl M72
section
variable {P : Program} {w : World} {K : PySem.W.Frag} {mg : Str → Option Value} {base : Heap} {f C : Addr} {fd : FuncData}
local macro_rules | `(tactic| walk_at "dd") => `(tactic| try simp only [dSeq, dNext, dRet, dIf, dAsg, dPar, dName, dGTup, dGCons, dGNil, dOp, dVar, slot, dC, dB, dAndT, dOrT, dNotT, dIfE, dAnd, dOr, dTup, dLst, dCons, dNil, dCall, dCallK, dCB, dUn, dSl, dNo, dSome, startD, dM0,
  gEq_int, gNe_int, gEq_bl, gEq_str, gNe_str, gLt_int, gGt_int, gLe_int, gGe_int, gAdd_int, gSub_int, gMul_int, gMod_int, gDiv_int, gPow_int, gNeg_int, gNot_bl, gIs_bl, gIx_t0, gIx_t1, gIx_t2, gLen_l, gLen_t, gSl_l, gSl_sq, gSl_t, gRev_l, gRev_t, gRevM_l, gList_l, gList_sq, gList_t, gMax2_int, gRepr_l, gRepr_t,
  List.map, List.replicate, List.length, List.set, List.cons_append, List.nil_append, List.append, Nat.sub, Nat.reduceSub, Nat.reduceAdd, true_and, and_true, if_true, if_false, decide_true, decide_false, Bool.not_true, Bool.not_false, Bool.false_eq_true, reduceIte])
local macro_rules | `(tactic| walk_at "d0") => `(tactic| try simp only [startD, List.map, List.replicate, List.length, List.cons_append, List.nil_append, List.append, Nat.sub, Nat.reduceSub, Nat.reduceAdd])
local macro_rules | `(tactic| walk_at "dx") => `(tactic| try simp only [↓s_seq, ↓s_next, ↓s_brk, ↓s_cnt, ↓s_retN, ↓s_ret, ↓s_drop, ↓s_if, ↓s_asg, ↓s_par, ↓s_par2, ↓s_tup, ↓s_gnil, ↓s_gcons, ↓s_op, ↓s_c, ↓s_b, ↓s_bB, ↓s_andT, ↓s_orT, ↓s_notT, ↓s_ifE, ↓s_and, ↓s_or, ↓s_bAnd, ↓s_bOr, ↓s_etup, ↓s_lst, ↓s_nil, ↓s_cons, ↓s_call, ↓s_callB, ↓s_cb, ↓s_un, ↓s_m0, ↓s_len, ↓s_both, ↓s_fld, ↓s_setF, ↓s_make, ↓s_makeM, ↓s_meth, ↓s_prop, ↓s_orV, ↓s_sl, ↓s_no, ↓s_some, ↓s_bSome, ↓s_fmt, ↓s_fmtS, ↓s_fmtI, ↓s_join, ↓s_js0, ↓s_js1, ↓s_bJs, ↓s_sub, ↓s_yes, ↓p_nil, ↓v_0, ↓v_1, ↓v_2, ↓v_3, ↓v_4, ↓v_5, ↓v_6, ↓v_7, ↓v_8, ↓v_9, ↓v_10, ↓v_11, ↓v_12, ↓v_13, ↓v_14, ↓v_15, ↓v_16, ↓v_17, ↓n_0, ↓n_1, ↓n_2, ↓n_3, ↓n_4, ↓n_5, ↓n_6, ↓n_7, ↓n_8, ↓n_9, ↓n_10, ↓n_11, ↓n_12, ↓n_13, ↓n_14, ↓n_15, ↓n_16, ↓n_17, ↓p_0, ↓p_1, ↓p_2, ↓p_3, ↓p_4, ↓p_5, ↓p_6, ↓p_7, ↓ex_some, ↓ex_bl, ↓gEq_int, ↓gNe_int, ↓gEq_bl, ↓gNe_bl, ↓gEq_str, ↓gNe_str, ↓gLt_int, ↓gGt_int, ↓gLe_int, ↓gGe_int, ↓gAdd_int, ↓gAdd_str, ↓gAdd_t, ↓gAdd_l, ↓gEq_nil, ↓gNe_nil0, ↓gSub_int, ↓gMul_int, ↓gMod_int, ↓gDiv_int, ↓gPow_int, ↓gNeg_int, ↓gNot_bl, ↓gIs_bl, ↓gIx_t0, ↓gIx_t1, ↓gIx_t2, ↓gLen_l, ↓gLen_t, ↓gSl_l, ↓gSl_sq, ↓gSl_t, ↓gRev_l, ↓gRev_t, ↓gRevM_l, ↓gList_l, ↓gList_sq, ↓gList_t, ↓gMax2_int, ↓gRepr_l, ↓gRepr_t, ↓gAbs_int, ↓gDivA_int, ↓gMulW_int, ↓gStrI_int, ↓gBoolI_int, ↓gBoolI_bl, ↓gTuple_l, ↓gTuple_t, ↓gIsi_non, ↓gIsi_bl, ↓gIsi_int, ↓gIsi_str, ↓gIsi_lst, ↓gIsi_tup, ↓gIsi_obj, ↓gDun_obj, ↓gOne_obj, ↓isBl_bl, ↓isStr_str, ansB, ansO, List.length, List.cons_append, List.nil_append, List.append, Nat.reduceAdd, true_and, and_true, if_true, if_false, decide_true, decide_false, Bool.not_true, Bool.not_false, Bool.false_eq_true, reduceIte])

def sp_words : SpD := fun ds μ Q => ∃ (d c : Addr) (n : Nat), ds = [.ref d] ∧ Deck μ d c n ∧ n < 800000000 ∧ ∀ μ' x y, Wd 40 x y → Deck μ' d c (n + 9) → But d c μ μ' → Q (.tup [.int x, .int y]) μ'
theorem ok_words (T : Txt mg C) {f1 fd1 ps1 f2 fd2 ps2} (c__law_whole : Cl P w K mg base 3 "_law_whole" f1 fd1 ps1 sp_whole) (c__law_pick : Cl P w K mg base 2 "_law_pick" f2 fd2 ps2 sp_pick) (F : Fun K "_law_words" "_law_words" s__law_words f fd) :
    FnG P w K mg base CX0 4 f fd ["_law_deck_here"] (up K sp_words) := by
  refine okD F sc__law_words (fun ⟨d, c, n, e, _⟩ => by rw [e]; rfl) ?_
  rintro X ⟨cdv, A, outer, s, H, E, rfl⟩ hgu hr
  refine ⟨_, (ds_cons (ds_par (i := 1) (j := 2) rfl sc__law_words.nd (pda_cons (pd_call c__law_whole hr hgu (pda_cons (pd_var 0) pda_nil)) (pda_cons (pd_call c__law_pick hr hgu (pda_cons (pd_var 0) (pda_cons (pd_lst (pda_cons pd_int (pda_cons pd_int (pda_cons pd_int (pda_cons pd_int (pda_cons (pd_neg pd_int) (pda_cons (pd_neg pd_int) pda_nil))))))) pda_nil))) pda_nil)))
      (ds_cons (ds_set (i := 3) sc__law_words.nd (pd_call c__law_whole hr hgu (pda_cons (pd_var 0) pda_nil)))
      (ds_one (ds_ret (pd_tup (pda_cons (pd_mul (pd_var 3) (pd_var 2)) (pda_cons (pd_mul (pd_if (pt_ne hr (pd_var 1) pd_int) (pd_var 1) pd_int) (pd_var 2)) pda_nil))))))), ?_⟩
  rintro ds μ Q ⟨d, c, n, rfl, hd, hn, q⟩
  walk_at "d0"
  walk_at "dx"
  refine ⟨d, c, n, rfl, hd, by omega, fun μ1 l hl hd1 w1 => ?_⟩
  walk_at "dx"
  refine ⟨sz (by decide), d, c, _, n + 4, rfl, by simp, by simp, hd1, by omega, fun μ2 x hx hd2 w2 => ?_⟩
  have hx' : ∃ i : Int, x = .int i ∧ i ≠ 0 ∧ i.natAbs ≤ 6 := by
    simp only [List.mem_cons, List.not_mem_nil, or_false] at hx
    rcases hx with rfl | rfl | rfl | rfl | rfl | rfl <;> exact ⟨_, rfl, by decide, by decide⟩
  obtain ⟨b, rfl, hb0, hb⟩ := hx'
  walk_at "dx"
  refine ⟨d, c, n + 5, rfl, hd2, by omega, fun μ3 h hh hd3 w3 => ?_⟩
  walk_at "dx"
  have cb : ∀ i : Int, CMul i b := fun i => .inr ⟨by omega, by omega⟩
  have mb : ∀ i : Int, i.natAbs ≤ 1000000000 → (i * b).natAbs < 2 ^ 40 := fun i hi => by
    rw [Int.natAbs_mul]
    exact Nat.lt_of_le_of_lt (Nat.mul_le_mul hi hb) (by decide)
  by_cases hz : l = 0
  · simp only [hz, decide_true, Bool.not_true, Bool.false_eq_true, if_false]
    refine ⟨cb _, cb _, sz (by decide), q _ _ _ ⟨?_, mb _ hh, mb _ (by decide)⟩ hd3 ((w1.trans w2).trans w3)⟩
    exact Int.mul_ne_zero (by decide) hb0
  · simp only [hz, decide_false, Bool.not_false, if_true]
    refine ⟨cb _, cb _, sz (by decide), q _ _ _ ⟨?_, mb _ hh, mb _ hl⟩ hd3 ((w1.trans w2).trans w3)⟩
    exact Int.mul_ne_zero hz hb0
def sp_near : SpD := fun ds μ Q => ∃ (d c : Addr) (n k : Nat) (x y : Int), ds = [.ref d, .tup [.int x, .int y]] ∧ Deck μ d c n ∧ n < 800000000 ∧ Wd k x y ∧ ∀ μ' x' y', Wd (k + 4) x' y' → Deck μ' d c (n + 2) → But d c μ μ' → Q (.tup [.int x', .int y']) μ'
theorem ok_near (T : Txt mg C) {f2 fd2 ps2} (c__law_pick : Cl P w K mg base 2 "_law_pick" f2 fd2 ps2 sp_pick) (F : Fun K "_law_near" "_law_near" s__law_near f fd) :
    FnG P w K mg base CX0 3 f fd ["_law_deck_here", "_law_words_here"] (up K sp_near) := by
  refine okD F sc__law_near (fun ⟨d, c, n, k, x, y, e, _⟩ => by rw [e]; rfl) ?_
  rintro X ⟨cdv, A, outer, s, H, E, rfl⟩ hgu hr
  refine ⟨_, (ds_cons (ds_asg (pd_var 1) (dg_tup rfl (dgs_cons (dg_name (i := 2) sc__law_near.nd) (dgs_cons (dg_name (i := 3) sc__law_near.nd) dgs_nil))))
      (ds_cons (ds_set (i := 4) sc__law_near.nd (pd_call c__law_pick hr hgu (pda_cons (pd_var 0) (pda_cons (pd_lst (pda_cons pd_int (pda_cons pd_int (pda_cons (pd_neg pd_int) (pda_cons pd_int pda_nil))))) pda_nil))))
      (ds_one (ds_ret (pd_call c__law_pick hr hgu (pda_cons (pd_var 0) (pda_cons (pd_lst (pda_cons (pd_tup (pda_cons (pd_mul (pd_var 2) (pd_var 4)) (pda_cons (pd_mul (pd_var 3) (pd_var 4)) pda_nil))) (pda_cons (pd_tup (pda_cons (pd_add (pd_var 2) pd_int) (pda_cons (pd_var 3) pda_nil))) (pda_cons (pd_tup (pda_cons (pd_var 2) (pda_cons (pd_orV (pd_add (pd_var 3) pd_int) (pd_one pd_int)) pda_nil))) (pda_cons (pd_tup (pda_cons (pd_add (pd_mul (pd_var 2) pd_int) pd_int) (pda_cons (pd_mul (pd_var 3) pd_int) pda_nil))) pda_nil))))) pda_nil))))))), ?_⟩
  rintro ds μ Q ⟨d, c, n, k, x, y, rfl, hd, hn, ⟨y0, hx, hy⟩, q⟩
  walk_at "d0"
  walk_at "dx"
  refine ⟨sz (by decide), d, c, _, n, rfl, by simp, by simp, hd, by omega, fun μ1 z hz hd1 w1 => ?_⟩
  have hz' : ∃ i : Int, z = .int i ∧ i ≠ 0 ∧ i.natAbs ≤ 10 := by
    simp only [List.mem_cons, List.not_mem_nil, or_false] at hz
    rcases hz with rfl | rfl | rfl | rfl <;> exact ⟨_, rfl, by decide, by decide⟩
  obtain ⟨b, rfl, hb0, hb⟩ := hz'
  walk_at "dx"
  have cb : ∀ i : Int, CMul i b := fun i => .inr ⟨by omega, by omega⟩
  have p4 : 2 ^ (k + 4) = 16 * 2 ^ k := by rw [Nat.pow_add, Nat.mul_comm]
  have pk : 0 < 2 ^ k := Nat.pow_pos (by decide)
  have mb : ∀ i : Int, i.natAbs < 2 ^ k → (i * b).natAbs < 2 ^ (k + 4) := fun i hi => by
    rw [Int.natAbs_mul, p4, Nat.mul_comm]
    have := Nat.mul_le_mul hb (Nat.le_of_lt hi)
    omega
  have end_ : ∀ y3 : Int, y3 ≠ 0 → y3.natAbs < 2 ^ (k + 4) → ∀ μ', Deck μ' d c (n + 2) → But d c μ μ' → ∀ v, v ∈ [D.tup [.int (x * b), .int (y * b)], .tup [.int (x + 1), .int y], .tup [.int x, .int y3], .tup [.int (x * 7 + 1), .int (y * 7)]] → Q v μ' := by
    intro y3 h1 h2 μ' hd' w' v hv
    simp only [List.mem_cons, List.not_mem_nil, or_false] at hv
    rcases hv with rfl | rfl | rfl | rfl
    · exact q _ _ _ ⟨Int.mul_ne_zero y0 hb0, mb _ hx, mb _ hy⟩ hd' w'
    · exact q _ _ _ ⟨y0, by omega, by omega⟩ hd' w'
    · exact q _ _ _ ⟨h1, by omega, h2⟩ hd' w'
    · exact q _ _ _ ⟨by omega, by omega, by omega⟩ hd' w'
  refine ⟨cb _, cb _, sz (by decide), sz (by decide), ?_⟩
  refine ⟨(y + 1 != 0), rfl, ?_⟩
  by_cases h : y + 1 = 0
  · simp only [h, bne_self_eq_false, Bool.false_eq_true, if_false]
    refine ⟨sz (by decide), .inr ⟨by decide, by decide⟩, .inr ⟨by decide, by decide⟩, sz (by decide), sz (by decide), d, c, _, n + 1, rfl, by simp, by simp, hd1, by omega, fun μ2 v hv hd2 w2 => ?_⟩
    exact end_ 1 (by decide) (by omega) _ hd2 (w1.trans w2) v hv
  · have e : (y + 1 != 0) = true := by simp [h]
    simp only [e, if_true]
    refine ⟨sz (by decide), .inr ⟨by decide, by decide⟩, .inr ⟨by decide, by decide⟩, sz (by decide), sz (by decide), d, c, _, n + 1, rfl, by simp, by simp, hd1, by omega, fun μ2 v hv hd2 w2 => ?_⟩
    exact end_ (y + 1) h (by omega) _ hd2 (w1.trans w2) v hv
end
end K72

namespace K72
open PySem PySem.Spec PyProof.Rows L2 Dl M72
section
variable {P : Program} {w : World} {K : PySem.W.Frag} {mg : Str → Option Value} {base : Heap} {f C : Addr} {fd : FuncData}
local macro_rules | `(tactic| walk_at "dd") => `(tactic| try simp only [dSeq, dNext, dRet, dIf, dAsg, dPar, dName, dGTup, dGCons, dGNil, dOp, dVar, slot, dC, dB, dAndT, dOrT, dNotT, dIfE, dAnd, dOr, dTup, dLst, dCons, dNil, dCall, dCallK, dCB, dUn, dSl, dNo, dSome, startD, dM0,
  gEq_int, gNe_int, gEq_bl, gEq_str, gNe_str, gLt_int, gGt_int, gLe_int, gGe_int, gAdd_int, gSub_int, gMul_int, gMod_int, gDiv_int, gPow_int, gNeg_int, gNot_bl, gIs_bl, gIx_t0, gIx_t1, gIx_t2, gLen_l, gLen_t, gSl_l, gSl_sq, gSl_t, gRev_l, gRev_t, gRevM_l, gList_l, gList_sq, gList_t, gMax2_int, gRepr_l, gRepr_t,
  List.map, List.replicate, List.length, List.set, List.cons_append, List.nil_append, List.append, Nat.sub, Nat.reduceSub, Nat.reduceAdd, true_and, and_true, if_true, if_false, decide_true, decide_false, Bool.not_true, Bool.not_false, Bool.false_eq_true, reduceIte])
local macro_rules | `(tactic| walk_at "d0") => `(tactic| try simp only [startD, List.map, List.replicate, List.length, List.cons_append, List.nil_append, List.append, Nat.sub, Nat.reduceSub, Nat.reduceAdd])
local macro_rules | `(tactic| walk_at "dx") => `(tactic| try simp only [↓s_seq, ↓s_next, ↓s_brk, ↓s_cnt, ↓s_retN, ↓s_ret, ↓s_drop, ↓s_if, ↓s_asg, ↓s_par, ↓s_par2, ↓s_tup, ↓s_gnil, ↓s_gcons, ↓s_op, ↓s_c, ↓s_b, ↓s_bB, ↓s_andT, ↓s_orT, ↓s_notT, ↓s_ifE, ↓s_and, ↓s_or, ↓s_bAnd, ↓s_bOr, ↓s_etup, ↓s_lst, ↓s_nil, ↓s_cons, ↓s_call, ↓s_callB, ↓s_cb, ↓s_un, ↓s_m0, ↓s_len, ↓s_both, ↓s_fld, ↓s_setF, ↓s_make, ↓s_makeM, ↓s_meth, ↓s_prop, ↓s_orV, ↓s_sl, ↓s_no, ↓s_some, ↓s_bSome, ↓s_fmt, ↓s_fmtS, ↓s_fmtI, ↓s_join, ↓s_js0, ↓s_js1, ↓s_bJs, ↓s_sub, ↓s_yes, ↓p_nil, ↓v_0, ↓v_1, ↓v_2, ↓v_3, ↓v_4, ↓v_5, ↓v_6, ↓v_7, ↓v_8, ↓v_9, ↓v_10, ↓v_11, ↓v_12, ↓v_13, ↓v_14, ↓v_15, ↓v_16, ↓v_17, ↓n_0, ↓n_1, ↓n_2, ↓n_3, ↓n_4, ↓n_5, ↓n_6, ↓n_7, ↓n_8, ↓n_9, ↓n_10, ↓n_11, ↓n_12, ↓n_13, ↓n_14, ↓n_15, ↓n_16, ↓n_17, ↓p_0, ↓p_1, ↓p_2, ↓p_3, ↓p_4, ↓p_5, ↓p_6, ↓p_7, ↓ex_some, ↓ex_bl, ↓gEq_int, ↓gNe_int, ↓gEq_bl, ↓gNe_bl, ↓gEq_str, ↓gNe_str, ↓gLt_int, ↓gGt_int, ↓gLe_int, ↓gGe_int, ↓gAdd_int, ↓gAdd_str, ↓gAdd_t, ↓gAdd_l, ↓gEq_nil, ↓gNe_nil0, ↓gSub_int, ↓gMul_int, ↓gMod_int, ↓gDiv_int, ↓gPow_int, ↓gNeg_int, ↓gNot_bl, ↓gIs_bl, ↓gIx_t0, ↓gIx_t1, ↓gIx_t2, ↓gLen_l, ↓gLen_t, ↓gSl_l, ↓gSl_sq, ↓gSl_t, ↓gRev_l, ↓gRev_t, ↓gRevM_l, ↓gList_l, ↓gList_sq, ↓gList_t, ↓gMax2_int, ↓gRepr_l, ↓gRepr_t, ↓gAbs_int, ↓gDivA_int, ↓gMulW_int, ↓gStrI_int, ↓gBoolI_int, ↓gBoolI_bl, ↓gTuple_l, ↓gTuple_t, ↓gIsi_non, ↓gIsi_bl, ↓gIsi_int, ↓gIsi_str, ↓gIsi_lst, ↓gIsi_tup, ↓gIsi_obj, ↓gDun_obj, ↓gOne_obj, ↓isBl_bl, ↓isStr_str, ansB, ansO, List.length, List.cons_append, List.nil_append, List.append, Nat.reduceAdd, true_and, and_true, if_true, if_false, decide_true, decide_false, Bool.not_true, Bool.not_false, Bool.false_eq_true, reduceIte])

def sp_low : SpD := fun ds μ Q => ∃ h l : Int, ds = [.int h, .int l] ∧ Fit l ∧ Q (.tup [.int (low h l).1, .int (low h l).2]) μ
theorem ok_lowest (T : Txt mg C) {f1 fd1 ps1} (c__law_divisor : Cl P w K mg base 1 "_law_divisor" f1 fd1 ps1 sp_gcd) (F : Fun K "_law_lowest" "_law_lowest" s__law_lowest f fd) : FnG P w K mg base CX0 2 f fd ["_law_high", "_law_low"] (up K sp_low) := by
  refine okD F sc__law_lowest (fun ⟨h, l, e, _⟩ => by rw [e]; rfl) ?_
  rintro X ⟨cdv, A, outer, s, H, E, rfl⟩ hgu hr
  refine ⟨_, (ds_cons (ds_set (i := 2) sc__law_lowest.nd (pd_call c__law_divisor hr hgu (pda_cons (pd_var 0) (pda_cons (pd_var 1) pda_nil))))
      (ds_cons (ds_if (pt_lt hr (pd_var 1) pd_int) (ds_one (ds_set (i := 2) sc__law_lowest.nd (pd_neg (pd_var 2)))) ds_nil)
      (ds_one (ds_ret (pd_tup (pda_cons (pd_divA (pd_var 0) (pd_var 2)) (pda_cons (pd_divA (pd_var 1) (pd_var 2)) pda_nil))))))), ?_⟩
  rintro ds μ Q ⟨h, l, rfl, fb, q⟩
  walk_at "d0"
  walk_at "dx"
  refine ⟨h, l, rfl, ?_⟩
  walk_at "dx"
  by_cases hb : l < 0
  · simp only [hb, decide_true, if_true]
    have e : (-(Int.gcd h l : Int)) = sg h l := by unfold sg; rw [if_pos hb]
    rw [e]
    exact ⟨fit_sg fb, fit_sg fb, sz (by decide), q⟩
  · simp only [hb, decide_false, Bool.false_eq_true, if_false]
    have e : ((Int.gcd h l : Int)) = sg h l := by unfold sg; rw [if_neg hb]
    rw [e]
    exact ⟨fit_sg fb, fit_sg fb, sz (by decide), q⟩
theorem shows_pair {a b : Int} (ha : a.natAbs < 2 ^ 200) (hb : b.natAbs < 2 ^ 200) : Shows (.tup [.int a, .int b]) := by
  have l1 := log_of (by decide) ha
  have l2 := log_of (by decide) hb
  refine Small.shows (B := 201) (W := 402) ⟨by simp [pur, purL], ?_, ?_, ?_, ?_⟩ (by decide) (by decide)
  · simp only [py, pyL, PyData.showable, PyData.showableAll, Bool.and_true, Bool.and_eq_true, decide_eq_true_eq]
    exact ⟨by omega, by omega⟩
  · simp [py, pyL, PyData.depth, PyData.depthAll]
  · simp only [py, pyL, PyData.leavesShort, PyData.leavesShortAll, Bool.and_true, Bool.and_eq_true]
    have h1 := int_short (k := 200) (by decide) l1
    have h2 := int_short (k := 200) (by decide) l2
    unfold PyData.leavesShort at h1 h2
    exact ⟨h1, h2⟩
  · simp only [py, pyL, PyData.weight, PyData.weightAll]
    have h1 := int_weight l1
    have h2 := int_weight l2
    unfold PyData.weight at h1 h2
    omega
abbrev an (C : Addr) : Ty → Option Bool := ansO fun C' => if C' = C then some true else none
def sp_is (C : Addr) : SpD := fun ds μ Q => ∃ a b h l : Int, ds = [rat C a b, .int h, .int l] ∧ Fit l ∧ low h l = (a, b) ∧ a.natAbs < 2 ^ 200 ∧ b.natAbs < 2 ^ 200 ∧ Q (.bl true) μ
theorem ok_is (T : Txt mg C) (cl_Ratio : Cls K C) (na_Ratio_top : NoAttr K C "top") (na_Ratio_bottom : NoAttr K C "bottom") (ia_Ratio : IsA K (.ref C) (an C)) (ia_bool : IsA K (.type "bool") (ansB .bl fun _ => none)) {f1 fd1 ps1} (c__law_lowest : Cl P w K mg base 2 "_law_lowest" f1 fd1 ps1 sp_low)
    (F : Fun K "_law_is" "_law_is" s__law_is f fd) : FnG P w K mg base CX0 3 f fd ["_law_made", "_law_high", "_law_low"] (up K (sp_is C)) := by
  refine okD F sc__law_is (fun ⟨a, b, h, l, e, _⟩ => by rw [e]; rfl) ?_
  rintro X ⟨cdv, A, outer, s, H, E, rfl⟩ hgu hr
  refine ⟨_, (ds_cons (ds_if (pt_w (pw_o (pt_n (pt_b (pd_isi ia_Ratio clsv_own T.isinstance (pda_cons (pd_var 0) (pda_cons (pd_gref T.Ratio) pda_nil))))) (pw_o (pt_b (pd_isi ia_bool clsv_ty T.isinstance (pda_cons (pd_fld cl_Ratio na_Ratio_top (pd_var 0)) (pda_cons (pd_tyname (n := "bool") T.bool (by decide +kernel)) pda_nil)))) (pw_o1 (pt_b (pd_isi ia_bool clsv_ty T.isinstance (pda_cons (pd_fld cl_Ratio na_Ratio_bottom (pd_var 0)) (pda_cons (pd_tyname (n := "bool") T.bool (by decide +kernel)) pda_nil)))))))) (ds_one (ds_ret pd_bl)) ds_nil)
      (ds_one (ds_ret (pd_eq hr (pd_repr hr hgu T.repr (by decide +kernel) (pd_tup (pda_cons (pd_fld cl_Ratio na_Ratio_top (pd_var 0)) (pda_cons (pd_fld cl_Ratio na_Ratio_bottom (pd_var 0)) pda_nil)))) (pd_repr hr hgu T.repr (by decide +kernel) (pd_call c__law_lowest hr hgu (pda_cons (pd_var 1) (pda_cons (pd_var 2) pda_nil)))))))), ?_⟩
  rintro ds μ Q ⟨a, b, h, l, rfl, fb, e, ha, hb, q⟩
  walk_at "d0"
  walk_at "dx"
  simp only [fld_top, fld_bottom]
  walk_at "dx"
  refine ⟨sz (by decide), shows_pair ha hb, h, l, rfl, fb, ?_⟩
  rw [e]
  walk_at "dx"
  exact ⟨shows_pair ha hb, q⟩
def sp_text : SpD := fun ds μ Q => ∃ a b h l : Int, ds = [.int h, .int l] ∧ Fit l ∧ low h l = (a, b) ∧ a.natAbs < 2 ^ 200 ∧ b.natAbs < 2 ^ 200 ∧ Q (.str (txt a b)) μ
theorem ok_text (T : Txt mg C) {f1 fd1 ps1} (c__law_lowest : Cl P w K mg base 2 "_law_lowest" f1 fd1 ps1 sp_low) (F : Fun K "_law_text" "_law_text" s__law_text f fd) : FnG P w K mg base CX0 3 f fd ["_law_high", "_law_low"] (up K sp_text) := by
  refine okD F sc__law_text (fun ⟨a, b, h, l, e, _⟩ => by rw [e]; rfl) ?_
  rintro X ⟨cdv, A, outer, s, H, E, rfl⟩ hgu hr
  refine ⟨_, (ds_cons (ds_asg (pd_call c__law_lowest hr hgu (pda_cons (pd_var 0) (pda_cons (pd_var 1) pda_nil))) (dg_tup rfl (dgs_cons (dg_name (i := 0) sc__law_text.nd) (dgs_cons (dg_name (i := 1) sc__law_text.nd) dgs_nil))))
      (ds_one (ds_ret (pd_if (pt_eq hr (pd_var 1) pd_int) (pd_strI T.str (pd_var 0)) (pd_add (pd_add (pd_strI T.str (pd_var 0)) pd_str) (pd_strI T.str (pd_var 1))))))), ?_⟩
  rintro ds μ Q ⟨a, b, h, l, rfl, fb, e, ha, hb, q⟩
  walk_at "d0"
  walk_at "dx"
  refine ⟨h, l, rfl, fb, ?_⟩
  rw [e]
  walk_at "dx"
  have l1 := len_int ha
  have l2 := len_int hb
  have la := Nat.lt_trans (log_of (by decide) ha) (show 200 < 1920 by decide)
  have lb := Nat.lt_trans (log_of (by decide) hb) (show 200 < 1920 by decide)
  unfold txt at q
  by_cases hz : b = 1
  · simp only [hz, decide_true, if_true]
    rw [if_pos hz] at q
    exact ⟨la, q⟩
  · simp only [hz, decide_false, Bool.false_eq_true, if_false]
    rw [if_neg hz] at q
    refine ⟨la, ?_, lb, ?_, q⟩
    · rw [len_sl]; exact sz (by omega)
    · rw [len_app, len_sl]; exact sz (by omega)
/-! ### two ratios -/
theorem fit_of {k : Nat} {x y : Int} (h : Wd k x y) (hk : k ≤ 60) : Fit y := ⟨h.1, Nat.lt_of_lt_of_le h.2.2 (Nat.pow_le_pow_right (by decide) (by omega))⟩
/-- in lowest terms, small -/
structure Lo (a b : Int) : Prop where
  pos : 0 < b
  g : Int.gcd a b = 1
  na : a.natAbs < 2 ^ 60
  nb : b.natAbs < 2 ^ 60
theorem lo_of {k : Nat} {x y a b : Int} (h : Wd k x y) (hk : k ≤ 60) (e : low x y = (a, b)) : Lo a b := by
  obtain ⟨h1, h2, h3, h4⟩ := low_abs h.1 e
  have p : 2 ^ k ≤ 2 ^ 60 := Nat.pow_le_pow_right (by decide) hk
  exact ⟨h3, h4, by have := h.2.1; omega, by have := h.2.2; omega⟩
theorem Lo.fit {a b : Int} (h : Lo a b) : Fit b := ⟨by have := h.pos; omega, Nat.lt_trans h.nb (Nat.pow_lt_pow_right (by decide) (by decide))⟩
theorem Lo.idem {a b : Int} (h : Lo a b) : low a b = (a, b) := low_idem h.pos h.g
theorem p200 {i : Int} (h : i.natAbs < 2 ^ 60) : i.natAbs < 2 ^ 200 := Nat.lt_trans h (Nat.pow_lt_pow_right (by decide) (by decide))
theorem p64 {i : Int} (h : i.natAbs < 2 ^ 60) : i.natAbs < 2 ^ 64 := Nat.lt_trans h (Nat.pow_lt_pow_right (by decide) (by decide))
theorem mulN {i j : Int} (h1 : i.natAbs < 2 ^ 60) (h2 : j.natAbs < 2 ^ 60) : (i * j).natAbs < 2 ^ 120 := by
  rw [Int.natAbs_mul]
  exact Nat.lt_of_lt_of_le (Nat.mul_lt_mul'' h1 h2) (by decide)
theorem mulFit {i j : Int} (h1 : Fit i) (h2 : Fit j) (n1 : i.natAbs < 2 ^ 60) (n2 : j.natAbs < 2 ^ 60) : Fit (i * j) := ⟨Int.mul_ne_zero h1.1 h2.1, Nat.lt_trans (mulN n1 n2) (Nat.pow_lt_pow_right (by decide) (by decide))⟩
theorem low200 {t b : Int} (hb : Fit b) (ht : t.natAbs < 2 ^ 130) (hb' : b.natAbs < 2 ^ 130) : ∃ p q, low t b = (p, q) ∧ p.natAbs < 2 ^ 200 ∧ q.natAbs < 2 ^ 200 := by
  obtain ⟨p, q, e, _⟩ := low_spec (t := t) hb.1
  obtain ⟨h1, h2, _⟩ := low_abs hb.1 e
  have : (2 : Nat) ^ 130 < 2 ^ 200 := Nat.pow_lt_pow_right (by decide) (by decide)
  exact ⟨p, q, e, by omega, by omega⟩
theorem n120 {i : Int} (h : i.natAbs < 2 ^ 120) : i.natAbs < 2 ^ 130 := Nat.lt_trans h (Nat.pow_lt_pow_right (by decide) (by decide))
theorem add120 {i j : Int} (h : i.natAbs < 2 ^ 120) (h' : j.natAbs < 2 ^ 120) : (i + j).natAbs < 2 ^ 130 := by
  have : (2 : Nat) ^ 130 = 1024 * 2 ^ 120 := by decide
  omega
theorem sub120 {i j : Int} (h : i.natAbs < 2 ^ 120) (h' : j.natAbs < 2 ^ 120) : (i - j).natAbs < 2 ^ 130 := by
  have : (2 : Nat) ^ 130 = 1024 * 2 ^ 120 := by decide
  omega
theorem shows_bb {p q : Bool} : Shows (.lst [.bl p, .bl q]) := by
  cases p <;> cases q <;> exact ⟨by decide +kernel, by decide +kernel, by decide +kernel, by decide +kernel⟩
theorem no_less {a b : Int} : (([("top", D.int a), ("bottom", D.int b)] : List (Str × D)).lookup ("is_less" : Str)) = none := rfl
abbrev okT (C : Addr) : Ty → Bool := fun t => match t with | .own C' => decide (C' = C) | _ => true
def sp_pair : SpD := fun ds μ Q => ∃ (k : Nat) (x y z v : Int), ds = [.tup [.int x, .int y], .tup [.int z, .int v]] ∧ k ≤ 60 ∧ Wd k x y ∧ Wd k z v ∧ Q (.bl true) μ
theorem pair_go {f1 fd1 ps1 f2 fd2 ps2 f3 fd3 ps3} (T : Txt mg C) (c__law_lowest : Cl P w K mg base 2 "_law_lowest" f1 fd1 ps1 sp_low) (c__law_is : Cl P w K mg base 3 "_law_is" f2 fd2 ps2 (sp_is C)) (c__law_text : Cl P w K mg base 3 "_law_text" f3 fd3 ps3 sp_text)
    (k_Ratio_2 : Ctor P w K mg base 2 "Ratio" C (sp_init C) 2 [] [.int 1] [0, 1, 2]) (k_Ratio_0_bottom_top : Ctor P w K mg base 2 "Ratio" C (sp_init C) 0 ["bottom", "top"] [.int 1] [0, 2, 1])
    (m_is_less_1 : MeC P w K mg base 1 C "is_less" (sp_less C) 1 [] [] [0, 1]) (m_is_less_0_other : MeC P w K mg base 1 C "is_less" (sp_less C) 0 ["other"] [] [0, 1])
    (sf_Ratio : PySem.W.selfFirst K C = true) (ea_Ratio : EqAsk K C (okT C)) (no_Ratio : NeObj K C)
    (d___add__ : Dun P w K mg base C "__add__" 4 (sp_op C (fun a b c d => a * d + c * b) fun a b c d => b * d)) (d___sub__ : Dun P w K mg base C "__sub__" 4 (sp_op C (fun a b c d => a * d - c * b) fun a b c d => b * d)) (d___mul__ : Dun P w K mg base C "__mul__" 4 (sp_op C (fun a b c d => a * c) fun a b c d => b * d))
    (d___eq__ : Dun P w K mg base C "__eq__" 1 (sp_eq C)) (d___bool__ : Dun P w K mg base C "__bool__" 1 (sp_bool C)) (d___str__ : Dun P w K mg base C "__str__" 1 (sp_str C))
    (F : Fun K "_law_pair_right" "_law_pair_right" s__law_pair_right f fd) : FnG P w K mg base CX0 5 f fd ["_law_first", "_law_second"] (up K sp_pair) := by
  refine okD F sc__law_pair_right (fun ⟨k, x, y, z, v, e, _⟩ => by rw [e]; rfl) ?_
  rintro X ⟨cdv, A, outer, s, H, E, rfl⟩ hgu hr
  refine ⟨_, (ds_cons (ds_asg (pd_tup (pda_cons (pd_call c__law_lowest hr hgu (pda_cons (pd_at (pd_var 0) pd_int) (pda_cons (pd_at (pd_var 0) pd_int) pda_nil))) (pda_cons (pd_call c__law_lowest hr hgu (pda_cons (pd_at (pd_var 1) pd_int) (pda_cons (pd_at (pd_var 1) pd_int) pda_nil))) pda_nil))) (dg_tup rfl (dgs_cons (dg_tup rfl (dgs_cons (dg_name (i := 2) sc__law_pair_right.nd) (dgs_cons (dg_name (i := 3) sc__law_pair_right.nd) dgs_nil))) (dgs_cons (dg_tup rfl (dgs_cons (dg_name (i := 4) sc__law_pair_right.nd) (dgs_cons (dg_name (i := 5) sc__law_pair_right.nd) dgs_nil))) dgs_nil))))
      (ds_cons (ds_par (i := 6) (j := 7) rfl sc__law_pair_right.nd (pda_cons (pd_mk k_Ratio_2 hr hgu (pdc_p (pda_cons (pd_at (pd_var 0) pd_int) (pda_cons (pd_at (pd_var 0) pd_int) pda_nil)))) (pda_cons (pd_mk k_Ratio_0_bottom_top hr hgu (pdc_k (pdk_cons (pd_at (pd_var 1) pd_int) (pdk_cons (pd_at (pd_var 1) pd_int) pdk_nil)))) pda_nil)))
      (ds_cons (ds_if (pt_w (pw_o (pt_n (pt_b (pd_call c__law_is hr hgu (pda_cons (pd_var 6) (pda_cons (pd_var 2) (pda_cons (pd_var 3) pda_nil)))))) (pw_o (pt_n (pt_b (pd_call c__law_is hr hgu (pda_cons (pd_var 7) (pda_cons (pd_var 4) (pda_cons (pd_var 5) pda_nil)))))) (pw_o (pt_ne hr (pd_strO d___str__ T.str hr hgu (pd_var 6)) (pd_call c__law_text hr hgu (pda_cons (pd_var 2) (pda_cons (pd_var 3) pda_nil)))) (pw_o1 (pt_ne hr (pd_boolO d___bool__ T.bool hr hgu (pd_var 7)) (pd_ne hr (pd_var 4) pd_int))))))) (ds_one (ds_ret pd_bl)) ds_nil)
      (ds_cons (ds_if (pt_w (pw_o (pt_n (pt_b (pd_call c__law_is hr hgu (pda_cons (pd_dun d___add__ sf_Ratio hr hgu (pd_var 6) (pd_var 7)) (pda_cons (pd_add (pd_mul (pd_var 2) (pd_var 5)) (pd_mul (pd_var 4) (pd_var 3))) (pda_cons (pd_mul (pd_var 3) (pd_var 5)) pda_nil)))))) (pw_o1 (pt_n (pt_b (pd_call c__law_is hr hgu (pda_cons (pd_dun d___sub__ sf_Ratio hr hgu (pd_var 6) (pd_var 7)) (pda_cons (pd_sub (pd_mul (pd_var 2) (pd_var 5)) (pd_mul (pd_var 4) (pd_var 3))) (pda_cons (pd_mul (pd_var 3) (pd_var 5)) pda_nil))))))))) (ds_one (ds_ret pd_bl)) ds_nil)
      (ds_cons (ds_if (pt_w (pw_o (pt_n (pt_b (pd_call c__law_is hr hgu (pda_cons (pd_dun d___mul__ sf_Ratio hr hgu (pd_var 6) (pd_var 7)) (pda_cons (pd_mul (pd_var 2) (pd_var 4)) (pda_cons (pd_mul (pd_var 3) (pd_var 5)) pda_nil)))))) (pw_o1 (pt_n (pt_b (pd_call c__law_is hr hgu (pda_cons (pd_dun d___mul__ sf_Ratio hr hgu (pd_var 7) (pd_var 6)) (pda_cons (pd_mul (pd_var 2) (pd_var 4)) (pda_cons (pd_mul (pd_var 3) (pd_var 5)) pda_nil))))))))) (ds_one (ds_ret pd_bl)) ds_nil)
      (ds_cons (ds_if (pt_ne hr (pd_repr hr hgu T.repr (by decide +kernel) (pd_lst (pda_cons (pd_me m_is_less_1 hr hgu (pd_var 6) (pdc_p (pda_cons (pd_var 7) pda_nil))) (pda_cons (pd_me m_is_less_0_other hr hgu (pd_var 7) (pdc_k (pdk_cons (pd_var 6) pdk_nil))) pda_nil)))) (pd_repr hr hgu T.repr (by decide +kernel) (pd_lst (pda_cons (pd_lt hr (pd_mul (pd_var 2) (pd_var 5)) (pd_mul (pd_var 4) (pd_var 3))) (pda_cons (pd_lt hr (pd_mul (pd_var 4) (pd_var 3)) (pd_mul (pd_var 2) (pd_var 5))) pda_nil))))) (ds_one (ds_ret pd_bl)) ds_nil)
      (ds_cons (ds_if (pt_ne hr (pd_repr hr hgu T.repr (by decide +kernel) (pd_lst (pda_cons (pd_eqO d___eq__ ea_Ratio hr hgu (pd_var 6) (pd_var 7)) (pda_cons (pd_neO d___eq__ no_Ratio ea_Ratio hr hgu (pd_var 6) (pd_var 7)) pda_nil)))) (pd_repr hr hgu T.repr (by decide +kernel) (pd_lst (pda_cons (pd_eq hr (pd_mul (pd_var 2) (pd_var 5)) (pd_mul (pd_var 4) (pd_var 3))) (pda_cons (pd_ne hr (pd_mul (pd_var 2) (pd_var 5)) (pd_mul (pd_var 4) (pd_var 3))) pda_nil))))) (ds_one (ds_ret pd_bl)) ds_nil)
      (ds_one (ds_ret (pd_and (pd_call c__law_is hr hgu (pda_cons (pd_var 6) (pda_cons (pd_var 2) (pda_cons (pd_var 3) pda_nil)))) (pd_one (pd_call c__law_is hr hgu (pda_cons (pd_var 7) (pda_cons (pd_var 4) (pda_cons (pd_var 5) pda_nil))))))))))))))), ?_⟩
  rintro ds μ Q ⟨k, x, y, z, v, rfl, hk, w1, w2, q⟩
  walk_at "d0"
  walk_at "dx"
  obtain ⟨a, b, e1, _⟩ := low_spec (t := x) w1.1
  obtain ⟨c, d, e2, _⟩ := low_spec (t := z) w2.1
  have l1 := lo_of w1 hk e1
  have l2 := lo_of w2 hk e2
  refine ⟨x, y, rfl, fit_of w1 hk, ?_⟩
  walk_at "dx"
  refine ⟨z, v, rfl, fit_of w2 hk, ?_⟩
  rw [e1, e2]
  walk_at "dx"
  refine ⟨sz (by decide), mk_done (fit_of w1 hk) ?_⟩
  rw [e1]
  walk_at "dx"
  refine mk_done (fit_of w2 hk) ?_
  rw [e2]
  walk_at "dx"
  refine ⟨a, b, a, b, rfl, l1.fit, l1.idem, p200 l1.na, p200 l1.nb, ?_⟩
  walk_at "dx"
  refine ⟨c, d, c, d, rfl, l2.fit, l2.idem, p200 l2.na, p200 l2.nb, ?_⟩
  walk_at "dx"
  refine ⟨a, b, rfl, p200 l1.na, p200 l1.nb, ?_⟩
  walk_at "dx"
  refine ⟨a, b, a, b, rfl, l1.fit, l1.idem, p200 l1.na, p200 l1.nb, ?_⟩
  walk_at "dx"
  refine ⟨c, d, rfl, ?_⟩
  rw [show (c != 0) = !decide (c = 0) from by by_cases h : c = 0 <;> simp [h]]
  walk_at "dx"
  have fbd := mulFit l1.fit l2.fit l1.nb l2.nb
  have nbd := mulN l1.nb l2.nb
  have m1 : CMul a d := cm (p64 l1.na)
  have m2 : CMul c b := cm (p64 l2.na)
  have m3 : CMul b d := cm (p64 l1.nb)
  have m4 : CMul a c := cm (p64 l1.na)
  obtain ⟨p, r, e, h1, h2⟩ := low200 (t := a * d + c * b) (b := b * d) fbd (add120 (mulN l1.na l2.nb) (mulN l2.na l1.nb)) (n120 nbd)
  refine ⟨a, b, c, d, rfl, p64 l1.na, p64 l1.nb, p64 l2.na, p64 l2.nb, fbd, ?_⟩
  rw [e]
  walk_at "dx"
  refine ⟨m1, m2, m3, p, r, _, _, rfl, fbd, e, h1, h2, ?_⟩
  walk_at "dx"
  obtain ⟨p, r, e, h1, h2⟩ := low200 (t := a * d - c * b) (b := b * d) fbd (sub120 (mulN l1.na l2.nb) (mulN l2.na l1.nb)) (n120 nbd)
  refine ⟨a, b, c, d, rfl, p64 l1.na, p64 l1.nb, p64 l2.na, p64 l2.nb, fbd, ?_⟩
  rw [e]
  walk_at "dx"
  refine ⟨m1, m2, m3, p, r, _, _, rfl, fbd, e, h1, h2, ?_⟩
  walk_at "dx"
  obtain ⟨p, r, e, h1, h2⟩ := low200 (t := a * c) (b := b * d) fbd (n120 (mulN l1.na l2.na)) (n120 nbd)
  refine ⟨a, b, c, d, rfl, p64 l1.na, p64 l1.nb, p64 l2.na, p64 l2.nb, fbd, ?_⟩
  rw [e]
  walk_at "dx"
  refine ⟨m4, m3, p, r, _, _, rfl, fbd, e, h1, h2, ?_⟩
  walk_at "dx"
  obtain ⟨p, r, e, h1, h2⟩ := low200 (t := a * c) (b := b * d) fbd (n120 (mulN l1.na l2.na)) (n120 nbd)
  refine ⟨c, d, a, b, rfl, p64 l2.na, p64 l2.nb, p64 l1.na, p64 l1.nb, (show Fit (d * b) by rw [Int.mul_comm]; exact fbd), ?_⟩
  have e' : low ((fun a b c d => a * c) c d a b) ((fun a b c d => b * d) c d a b) = (p, r) := by
    show low (c * a) (d * b) = _
    rw [Int.mul_comm c a, Int.mul_comm d b]
    exact e
  rw [e']
  walk_at "dx"
  refine ⟨m4, m3, p, r, _, _, rfl, fbd, e, h1, h2, ?_⟩
  walk_at "dx"
  refine ⟨⟨_, rfl, no_less⟩, a, b, c, d, rfl, m1, m2, ?_⟩
  walk_at "dx"
  refine ⟨⟨_, rfl, no_less⟩, c, d, a, b, rfl, m2, m1, ?_⟩
  walk_at "dx"
  have ec : (decide (a = c) && decide (b = d)) = decide (a * d = c * b) := by
    rw [← Bool.decide_and, decide_eq_decide]
    exact cross l1.pos l2.pos l1.g l2.g
  refine ⟨sz (by decide), shows_bb, m1, m2, m2, m1, sz (by decide), shows_bb, ⟨_, rfl⟩, ⟨.own C, rfl, by simp⟩, .inl ⟨a, b, c, d, rfl, _, rfl, ?_⟩⟩
  refine ⟨⟨_, rfl⟩, ⟨.own C, rfl, by simp⟩, .inl ⟨a, b, c, d, rfl, _, rfl, ?_⟩⟩
  rw [ec]
  refine ⟨sz (by decide), shows_bb, m1, m2, m1, m2, sz (by decide), shows_bb, ?_⟩
  walk_at "dx"
  refine ⟨a, b, a, b, rfl, l1.fit, l1.idem, p200 l1.na, p200 l1.nb, ?_⟩
  walk_at "dx"
  exact ⟨c, d, c, d, rfl, l2.fit, l2.idem, p200 l2.na, p200 l2.nb, q⟩
end
end K72

namespace K72
open PySem PySem.Spec PyProof.Rows L2 Dl M72
section
variable {P : Program} {w : World} {K : PySem.W.Frag} {mg : Str → Option Value} {base : Heap} {f C : Addr} {fd : FuncData}
local macro_rules | `(tactic| walk_at "dd") => `(tactic| try simp only [dSeq, dNext, dRet, dIf, dAsg, dPar, dName, dGTup, dGCons, dGNil, dOp, dVar, slot, dC, dB, dAndT, dOrT, dNotT, dIfE, dAnd, dOr, dTup, dLst, dCons, dNil, dCall, dCallK, dCB, dUn, dSl, dNo, dSome, startD, dM0,
  gEq_int, gNe_int, gEq_bl, gEq_str, gNe_str, gLt_int, gGt_int, gLe_int, gGe_int, gAdd_int, gSub_int, gMul_int, gMod_int, gDiv_int, gPow_int, gNeg_int, gNot_bl, gIs_bl, gIx_t0, gIx_t1, gIx_t2, gLen_l, gLen_t, gSl_l, gSl_sq, gSl_t, gRev_l, gRev_t, gRevM_l, gList_l, gList_sq, gList_t, gMax2_int, gRepr_l, gRepr_t,
  List.map, List.replicate, List.length, List.set, List.cons_append, List.nil_append, List.append, Nat.sub, Nat.reduceSub, Nat.reduceAdd, true_and, and_true, if_true, if_false, decide_true, decide_false, Bool.not_true, Bool.not_false, Bool.false_eq_true, reduceIte])
local macro_rules | `(tactic| walk_at "d0") => `(tactic| try simp only [startD, List.map, List.replicate, List.length, List.cons_append, List.nil_append, List.append, Nat.sub, Nat.reduceSub, Nat.reduceAdd])
local macro_rules | `(tactic| walk_at "dx") => `(tactic| try simp only [↓s_seq, ↓s_next, ↓s_brk, ↓s_cnt, ↓s_retN, ↓s_ret, ↓s_drop, ↓s_if, ↓s_asg, ↓s_par, ↓s_par2, ↓s_tup, ↓s_gnil, ↓s_gcons, ↓s_op, ↓s_c, ↓s_b, ↓s_bB, ↓s_andT, ↓s_orT, ↓s_notT, ↓s_ifE, ↓s_and, ↓s_or, ↓s_bAnd, ↓s_bOr, ↓s_etup, ↓s_lst, ↓s_nil, ↓s_cons, ↓s_call, ↓s_callB, ↓s_cb, ↓s_un, ↓s_m0, ↓s_len, ↓s_both, ↓s_fld, ↓s_setF, ↓s_make, ↓s_makeM, ↓s_meth, ↓s_prop, ↓s_orV, ↓s_sl, ↓s_no, ↓s_some, ↓s_bSome, ↓s_fmt, ↓s_fmtS, ↓s_fmtI, ↓s_join, ↓s_js0, ↓s_js1, ↓s_bJs, ↓s_sub, ↓s_yes, ↓p_nil, ↓v_0, ↓v_1, ↓v_2, ↓v_3, ↓v_4, ↓v_5, ↓v_6, ↓v_7, ↓v_8, ↓v_9, ↓v_10, ↓v_11, ↓v_12, ↓v_13, ↓v_14, ↓v_15, ↓v_16, ↓v_17, ↓n_0, ↓n_1, ↓n_2, ↓n_3, ↓n_4, ↓n_5, ↓n_6, ↓n_7, ↓n_8, ↓n_9, ↓n_10, ↓n_11, ↓n_12, ↓n_13, ↓n_14, ↓n_15, ↓n_16, ↓n_17, ↓p_0, ↓p_1, ↓p_2, ↓p_3, ↓p_4, ↓p_5, ↓p_6, ↓p_7, ↓ex_some, ↓ex_bl, ↓gEq_int, ↓gNe_int, ↓gEq_bl, ↓gNe_bl, ↓gEq_str, ↓gNe_str, ↓gLt_int, ↓gGt_int, ↓gLe_int, ↓gGe_int, ↓gAdd_int, ↓gAdd_str, ↓gAdd_t, ↓gAdd_l, ↓gEq_nil, ↓gNe_nil0, ↓gSub_int, ↓gMul_int, ↓gMod_int, ↓gDiv_int, ↓gPow_int, ↓gNeg_int, ↓gNot_bl, ↓gIs_bl, ↓gIx_t0, ↓gIx_t1, ↓gIx_t2, ↓gLen_l, ↓gLen_t, ↓gSl_l, ↓gSl_sq, ↓gSl_t, ↓gRev_l, ↓gRev_t, ↓gRevM_l, ↓gList_l, ↓gList_sq, ↓gList_t, ↓gMax2_int, ↓gRepr_l, ↓gRepr_t, ↓gAbs_int, ↓gDivA_int, ↓gMulW_int, ↓gStrI_int, ↓gBoolI_int, ↓gBoolI_bl, ↓gTuple_l, ↓gTuple_t, ↓gIsi_non, ↓gIsi_bl, ↓gIsi_int, ↓gIsi_str, ↓gIsi_lst, ↓gIsi_tup, ↓gIsi_obj, ↓gDun_obj, ↓gOne_obj, ↓isBl_bl, ↓isStr_str, ansB, ansO, List.length, List.cons_append, List.nil_append, List.append, Nat.reduceAdd, true_and, and_true, if_true, if_false, decide_true, decide_false, Bool.not_true, Bool.not_false, Bool.false_eq_true, reduceIte])

/-! ### one ratio among other things -/
def sp_alone : SpD := fun ds μ Q => ∃ (k : Nat) (x y : Int), ds = [.tup [.int x, .int y]] ∧ k ≤ 60 ∧ Wd k x y ∧ Q (.bl true) μ
theorem ok_alone (T : Txt mg C) (cl_Ratio : Cls K C) (na_Ratio_top : NoAttr K C "top") (na_Ratio_bottom : NoAttr K C "bottom") (k_Ratio_2 : Ctor P w K mg base 2 "Ratio" C (sp_init C) 2 [] [.int 1] [0, 1, 2]) (ea_Ratio : EqAsk K C (okT C)) (no_Ratio : NeObj K C)
    (d___eq__ : Dun P w K mg base C "__eq__" 1 (sp_eq C)) (d___str__ : Dun P w K mg base C "__str__" 1 (sp_str C)) (F : Fun K "_law_alone" "_law_alone" s__law_alone f fd) : FnG P w K mg base CX0 4 f fd ["_law_words_here"] (up K sp_alone) := by
  refine okD F sc__law_alone (fun ⟨k, x, y, e, _⟩ => by rw [e]; rfl) ?_
  rintro X ⟨cdv, A, outer, s, H, E, rfl⟩ hgu hr
  refine ⟨_, (ds_cons (ds_set (i := 1) sc__law_alone.nd (pd_mk k_Ratio_2 hr hgu (pdc_p (pda_cons (pd_at (pd_var 0) pd_int) (pda_cons (pd_at (pd_var 0) pd_int) pda_nil)))))
      (ds_cons (ds_set (i := 2) sc__law_alone.nd (pd_lst (pda_cons (pd_tup (pda_cons (pd_fld cl_Ratio na_Ratio_top (pd_var 1)) (pda_cons (pd_fld cl_Ratio na_Ratio_bottom (pd_var 1)) pda_nil))) (pda_cons (pd_fld cl_Ratio na_Ratio_top (pd_var 1)) (pda_cons (pd_strO d___str__ T.str hr hgu (pd_var 1)) (pda_cons pd_non (pda_cons pd_bl (pda_cons (pd_lst (pda_cons (pd_var 1) pda_nil)) (pda_cons (pd_eq hr (pd_fld cl_Ratio na_Ratio_top (pd_var 1)) (pd_fld cl_Ratio na_Ratio_bottom (pd_var 1))) pda_nil)))))))))
      (ds_one (ds_ret (pd_eq hr (pd_lc [("_law_thing", 3)] rfl sc__law_alone.nd (di_list (pd_var 2)) (blkOk_by (by kernel_rfl)) (fun _ _ _ _ _ => (cg_name (i := 3) sc__law_alone.nd)) (fun _ _ _ _ _ => (pdts_one (pt_w (pw_o (pt_eqO d___eq__ ea_Ratio hr hgu (pd_var 1) (pd_var 3)) (pw_o1 (pt_n (pt_neO d___eq__ no_Ratio ea_Ratio hr hgu (pd_var 1) (pd_var 3)))))))) (fun _ _ _ _ _ => pd_int)) (pd_lst pda_nil)))))), ?_⟩
  rintro ds μ Q ⟨k, x, y, rfl, hk, w1, q⟩
  walk_at "d0"
  walk_at "dx"
  obtain ⟨a, b, e1, _⟩ := low_spec (t := x) w1.1
  have l1 := lo_of w1 hk e1
  refine mk_done (fit_of w1 hk) ?_
  rw [e1]
  walk_at "dx"
  simp only [fld_top, fld_bottom]
  walk_at "dx"
  refine ⟨sz (by decide), a, b, rfl, p200 l1.na, p200 l1.nb, ?_⟩
  walk_at "dx"
  refine ⟨sz (by decide), sz (by decide), ?_⟩
  simp only [dLc, dRow]
  walk_at "dx"
  intro E hE
  refine ⟨fun i acc μ' => acc = [] ∧ μ' = mup μ E .hid, ⟨rfl, rfl⟩, fun _ _ _ _ => trivial, ?_, ?_⟩
  · rintro i z acc μ' hz ⟨rfl, rfl⟩
    have hp : ∃ t, (∀ μ, tyD μ z = some t) ∧ ∀ C', t ≠ .own C' := by
      have hm := List.mem_of_getElem? hz
      simp only [List.mem_cons, List.not_mem_nil, or_false] at hm
      rcases hm with rfl | rfl | rfl | rfl | rfl | rfl | rfl <;> exact ⟨_, fun _ => rfl, fun _ z => by cases z⟩
    obtain ⟨t, ht, hn⟩ := hp
    have ok : okT C t = true := by cases t <;> first | rfl | exact absurd rfl (hn _)
    simp only [wipeD, List.set]
    walk_at "dx"
    refine ⟨⟨_, rfl⟩, ⟨t, ht _, ok⟩, .inr ⟨a, b, z, t, rfl, ht _, hn, false, rfl, ?_⟩⟩
    walk_at "dx"
    refine ⟨⟨_, rfl⟩, ⟨t, ht _, ok⟩, .inr ⟨a, b, z, t, rfl, ht _, hn, false, rfl, ?_⟩⟩
    walk_at "dx"
    try exact ⟨rfl, rfl⟩
  · rintro acc μ' ⟨rfl, rfl⟩
    rw [mdel_mup hE]
    walk_at "dx"
    exact ⟨sz (by decide), q⟩
/-! ### three in a row -/
def isR (C : Addr) (x : D) : Prop := ∃ p r, x = rat C p r ∧ Lo p r
def sp_row : SpD := fun ds μ Q => ∃ (k : Nat) (ws : List D), ds = [.lst ws] ∧ k ≤ 60 ∧ ws.length ≤ 1000 ∧ (∀ t ∈ ws, ∃ x y, t = .tup [.int x, .int y] ∧ Wd k x y) ∧ Q (.bl true) μ
theorem ok_row (T : Txt mg C) (k_Ratio_2 : Ctor P w K mg base 2 "Ratio" C (sp_init C) 2 [] [.int 1] [0, 1, 2]) (m_is_less_1 : MeC P w K mg base 1 C "is_less" (sp_less C) 1 [] [] [0, 1]) (ea_Ratio : EqAsk K C (okT C))
    (d___eq__ : Dun P w K mg base C "__eq__" 1 (sp_eq C)) (F : Fun K "_law_row_right" "_law_row_right" s__law_row_right f fd) : FnG P w K mg base CX0 4 f fd ["_law_words_here"] (up K sp_row) := by
  refine okD F sc__law_row_right (fun ⟨k, x, e, _⟩ => by rw [e]; rfl) ?_
  rintro X ⟨cdv, A, outer, s, H, E, rfl⟩ hgu hr
  refine ⟨_, (ds_cons (ds_setLc (i := 1) [("_law_high", 2), ("_law_low", 3)] rfl sc__law_row_right.nd (di_list (pd_var 0)) (blkOk_by (by kernel_rfl)) (fun _ _ _ _ _ => (cg_tup rfl (cgs_cons (cg_name (i := 2) sc__law_row_right.nd) (cgs_cons (cg_name (i := 3) sc__law_row_right.nd) cgs_nil)))) (fun _ _ _ _ _ => pdts_nil) (fun _ _ _ _ _ => (pd_mk k_Ratio_2 hr hgu (pdc_p (pda_cons (pd_var 2) (pda_cons (pd_var 3) pda_nil))))))
      (ds_cons (ds_for PassesOwn.never rfl (di_list (pd_var 1)) (dg_name (i := 4) sc__law_row_right.nd) (ds_one (ds_for PassesOwn.never rfl (di_list (pd_var 1)) (dg_name (i := 5) sc__law_row_right.nd) (ds_one (ds_for PassesOwn.never rfl (di_list (pd_var 1)) (dg_name (i := 6) sc__law_row_right.nd) (ds_cut (ds_if (pt_w (pw_a (pt_b (pd_me m_is_less_1 hr hgu (pd_var 4) (pdc_p (pda_cons (pd_var 5) pda_nil)))) (pw_a (pt_b (pd_me m_is_less_1 hr hgu (pd_var 5) (pdc_p (pda_cons (pd_var 6) pda_nil)))) (pw_a1 (pt_n (pt_b (pd_me m_is_less_1 hr hgu (pd_var 4) (pdc_p (pda_cons (pd_var 6) pda_nil))))))))) (ds_one (ds_ret pd_bl)) ds_nil)
      (ds_one (ds_if (pt_w (pw_a (pt_eqO d___eq__ ea_Ratio hr hgu (pd_var 4) (pd_var 5)) (pw_a1 (pt_ne hr (pd_me m_is_less_1 hr hgu (pd_var 5) (pdc_p (pda_cons (pd_var 6) pda_nil))) (pd_me m_is_less_1 hr hgu (pd_var 4) (pdc_p (pda_cons (pd_var 6) pda_nil))))))) (ds_one (ds_ret pd_bl)) ds_nil))))))))
      (ds_one (ds_ret pd_bl)))), ?_⟩
  rintro ds μ Q ⟨k, ws, rfl, hk, hlen, hw, q⟩
  walk_at "d0"
  walk_at "dx"
  simp only [dLc, dRow]
  walk_at "dx"
  intro E hE
  refine ⟨fun i acc μ' => acc.length = i ∧ (∀ x ∈ acc, isR C x) ∧ μ' = mup μ E .hid, ⟨rfl, (fun _ h => nomatch h), rfl⟩, fun _ _ _ _ => trivial, ?_, ?_⟩
  · rintro i t acc μ' ht ⟨rfl, ha, rfl⟩
    obtain ⟨x, y, rfl, wd⟩ := hw t (List.mem_of_getElem? ht)
    obtain ⟨p, r, e1, _⟩ := low_spec (t := x) wd.1
    have l1 := lo_of wd hk e1
    have hi : acc.length < ws.length := (List.getElem?_eq_some_iff.mp ht).1
    simp only [wipeD, List.set]
    walk_at "dx"
    refine mk_done (fit_of wd hk) ?_
    rw [e1]
    refine ⟨Nat.lt_of_lt_of_le (Nat.lt_of_lt_of_le hi hlen) (by decide), by simp, fun z hz => ?_, rfl⟩
    rcases List.mem_append.mp hz with h | h
    · exact ha z h
    · rw [List.mem_singleton.mp h]
      exact ⟨p, r, rfl, l1⟩
  · rintro acc μ' ⟨_, ha, rfl⟩
    rw [mdel_mup hE]
    walk_at "dx"
    simp only [dFor, dRow]
    walk_at "dx"
    refine ⟨fun i ρ μ1 => μ1 = μ ∧ ∃ v2 v3 v4 v5 v6, ρ = [some (.lst ws), some (.lst acc), v2, v3, v4, v5, v6], ⟨rfl, _, _, _, _, _, rfl⟩, fun _ _ _ _ => trivial, ?_, ?_⟩
    · rintro i x1 ρ μ1 hx1 ⟨rfl, v2, v3, v4, v5, v6, rfl⟩
      obtain ⟨a, b, rfl, l1⟩ := ha x1 (List.mem_of_getElem? hx1)
      walk_at "dx"
      refine ⟨fun i ρ μ2 => μ2 = μ1 ∧ ∃ v5 v6, ρ = [some (.lst ws), some (.lst acc), v2, v3, some (rat C a b), v5, v6], ⟨rfl, _, _, rfl⟩, fun _ _ _ _ => trivial, ?_, ?_⟩
      · rintro i2 x2 ρ μ2 hx2 ⟨rfl, v5, v6, rfl⟩
        obtain ⟨c, d, rfl, l2⟩ := ha x2 (List.mem_of_getElem? hx2)
        walk_at "dx"
        refine ⟨fun i ρ μ3 => μ3 = μ2 ∧ ∃ v6, ρ = [some (.lst ws), some (.lst acc), v2, v3, some (rat C a b), some (rat C c d), v6], ⟨rfl, _, rfl⟩, fun _ _ _ _ => trivial, ?_, ?_⟩
        · rintro i3 x3 ρ μ3 hx3 ⟨rfl, v6, rfl⟩
          obtain ⟨e, g, rfl, l3⟩ := ha x3 (List.mem_of_getElem? hx3)
          walk_at "dx"
          have m1 : CMul a d := cm (p64 l1.na)
          have m2 : CMul c b := cm (p64 l2.na)
          have m3 : CMul c g := cm (p64 l2.na)
          have m4 : CMul e d := cm (p64 l3.na)
          have m5 : CMul a g := cm (p64 l1.na)
          have m6 : CMul e b := cm (p64 l3.na)
          refine ⟨fun ρ' μ' => μ' = μ3 ∧ ρ' = [some (.lst ws), some (.lst acc), v2, v3, some (rat C a b), some (rat C c d), some (rat C e g)], ?_, ?_⟩
          · walk_at "dx"
            refine ⟨⟨_, rfl, no_less⟩, a, b, c, d, rfl, m1, m2, ?_⟩
            walk_at "dx"
            by_cases h1 : a * d < c * b
            · simp only [h1, decide_true, if_true]
              refine ⟨⟨_, rfl, no_less⟩, c, d, e, g, rfl, m3, m4, ?_⟩
              walk_at "dx"
              by_cases h2 : c * g < e * d
              · simp only [h2, decide_true, if_true]
                refine ⟨⟨_, rfl, no_less⟩, a, b, e, g, rfl, m5, m6, ?_⟩
                walk_at "dx"
                have h3 := less_trans l1.pos l2.pos l3.pos h1 h2
                simp only [h3, decide_true, Bool.not_true, Bool.false_eq_true, if_false]
                try exact ⟨rfl, rfl⟩
              · simp only [h2, decide_false, Bool.false_eq_true, if_false]
                try exact ⟨rfl, rfl⟩
            · simp only [h1, decide_false, Bool.false_eq_true, if_false]
              try exact ⟨rfl, rfl⟩
          · rintro ρ' μ' ⟨rfl, rfl⟩
            walk_at "dx"
            refine ⟨⟨_, rfl⟩, ⟨.own C, rfl, by simp⟩, .inl ⟨a, b, c, d, rfl, _, rfl, ?_⟩⟩
            walk_at "dx"
            by_cases h : a = c ∧ b = d
            · obtain ⟨rfl, rfl⟩ := h
              simp only [decide_true, Bool.and_self, if_true]
              refine ⟨⟨_, rfl, no_less⟩, a, b, e, g, rfl, m5, m6, ?_⟩
              refine ⟨⟨_, rfl, no_less⟩, a, b, e, g, rfl, m5, m6, ?_⟩
              walk_at "dx"
              try exact ⟨rfl, _, rfl⟩
              try exact ⟨_, rfl⟩
            · have hb : (decide (a = c) && decide (b = d)) = false := by rw [← Bool.decide_and]; simpa using h
              simp only [hb, Bool.false_eq_true, if_false]
              first | exact ⟨rfl, _, rfl⟩ | exact ⟨_, rfl⟩
        · rintro ρ μ3 ⟨rfl, v6, rfl⟩
          exact ⟨rfl, _, _, rfl⟩
      · rintro ρ μ2 ⟨rfl, v5, v6, rfl⟩
        exact ⟨rfl, _, _, _, _, _, rfl⟩
    · rintro ρ μ1 ⟨rfl, v2, v3, v4, v5, v6, rfl⟩
      walk_at "dx"
      exact q
end
end K72

namespace K72
open PySem PySem.Spec PyProof.Rows L2 Dl M72
section
variable {P : Program} {w : World} {K : PySem.W.Frag} {mg : Str → Option Value} {base : Heap} {f C : Addr} {fd : FuncData}
local macro_rules | `(tactic| walk_at "dd") => `(tactic| try simp only [dSeq, dNext, dRet, dIf, dAsg, dPar, dName, dGTup, dGCons, dGNil, dOp, dVar, slot, dC, dB, dAndT, dOrT, dNotT, dIfE, dAnd, dOr, dTup, dLst, dCons, dNil, dCall, dCallK, dCB, dUn, dSl, dNo, dSome, startD, dM0,
  gEq_int, gNe_int, gEq_bl, gEq_str, gNe_str, gLt_int, gGt_int, gLe_int, gGe_int, gAdd_int, gSub_int, gMul_int, gMod_int, gDiv_int, gPow_int, gNeg_int, gNot_bl, gIs_bl, gIx_t0, gIx_t1, gIx_t2, gLen_l, gLen_t, gSl_l, gSl_sq, gSl_t, gRev_l, gRev_t, gRevM_l, gList_l, gList_sq, gList_t, gMax2_int, gRepr_l, gRepr_t,
  List.map, List.replicate, List.length, List.set, List.cons_append, List.nil_append, List.append, Nat.sub, Nat.reduceSub, Nat.reduceAdd, true_and, and_true, if_true, if_false, decide_true, decide_false, Bool.not_true, Bool.not_false, Bool.false_eq_true, reduceIte])
local macro_rules | `(tactic| walk_at "d0") => `(tactic| try simp only [startD, List.map, List.replicate, List.length, List.cons_append, List.nil_append, List.append, Nat.sub, Nat.reduceSub, Nat.reduceAdd])
local macro_rules | `(tactic| walk_at "dx") => `(tactic| try simp only [↓s_seq, ↓s_next, ↓s_brk, ↓s_cnt, ↓s_retN, ↓s_ret, ↓s_drop, ↓s_if, ↓s_asg, ↓s_par, ↓s_par2, ↓s_tup, ↓s_gnil, ↓s_gcons, ↓s_op, ↓s_c, ↓s_b, ↓s_bB, ↓s_andT, ↓s_orT, ↓s_notT, ↓s_ifE, ↓s_and, ↓s_or, ↓s_bAnd, ↓s_bOr, ↓s_etup, ↓s_lst, ↓s_nil, ↓s_cons, ↓s_call, ↓s_callB, ↓s_cb, ↓s_un, ↓s_m0, ↓s_len, ↓s_both, ↓s_fld, ↓s_setF, ↓s_make, ↓s_makeM, ↓s_meth, ↓s_prop, ↓s_orV, ↓s_sl, ↓s_no, ↓s_some, ↓s_bSome, ↓s_fmt, ↓s_fmtS, ↓s_fmtI, ↓s_join, ↓s_js0, ↓s_js1, ↓s_bJs, ↓s_sub, ↓s_yes, ↓p_nil, ↓v_0, ↓v_1, ↓v_2, ↓v_3, ↓v_4, ↓v_5, ↓v_6, ↓v_7, ↓v_8, ↓v_9, ↓v_10, ↓v_11, ↓v_12, ↓v_13, ↓v_14, ↓v_15, ↓v_16, ↓v_17, ↓n_0, ↓n_1, ↓n_2, ↓n_3, ↓n_4, ↓n_5, ↓n_6, ↓n_7, ↓n_8, ↓n_9, ↓n_10, ↓n_11, ↓n_12, ↓n_13, ↓n_14, ↓n_15, ↓n_16, ↓n_17, ↓p_0, ↓p_1, ↓p_2, ↓p_3, ↓p_4, ↓p_5, ↓p_6, ↓p_7, ↓ex_some, ↓ex_bl, ↓gEq_int, ↓gNe_int, ↓gEq_bl, ↓gNe_bl, ↓gEq_str, ↓gNe_str, ↓gLt_int, ↓gGt_int, ↓gLe_int, ↓gGe_int, ↓gAdd_int, ↓gAdd_str, ↓gAdd_t, ↓gAdd_l, ↓gEq_nil, ↓gNe_nil0, ↓gSub_int, ↓gMul_int, ↓gMod_int, ↓gDiv_int, ↓gPow_int, ↓gNeg_int, ↓gNot_bl, ↓gIs_bl, ↓gIx_t0, ↓gIx_t1, ↓gIx_t2, ↓gLen_l, ↓gLen_t, ↓gSl_l, ↓gSl_sq, ↓gSl_t, ↓gRev_l, ↓gRev_t, ↓gRevM_l, ↓gList_l, ↓gList_sq, ↓gList_t, ↓gMax2_int, ↓gRepr_l, ↓gRepr_t, ↓gAbs_int, ↓gDivA_int, ↓gMulW_int, ↓gStrI_int, ↓gBoolI_int, ↓gBoolI_bl, ↓gTuple_l, ↓gTuple_t, ↓gIsi_non, ↓gIsi_bl, ↓gIsi_int, ↓gIsi_str, ↓gIsi_lst, ↓gIsi_tup, ↓gIsi_obj, ↓gDun_obj, ↓gOne_obj, ↓isBl_bl, ↓isStr_str, ansB, ansO, List.length, List.cons_append, List.nil_append, List.append, Nat.reduceAdd, true_and, and_true, if_true, if_false, decide_true, decide_false, Bool.not_true, Bool.not_false, Bool.false_eq_true, reduceIte])

def sp_law : SpD := fun ds μ Q => ∃ ns : List Int, ds = [.sq (ns.map .int)] ∧ ns.length ≤ 63 ∧ ∀ μ', Q (.bl true) μ'
theorem ok_law (T : Txt mg C) {f1 fd1 ps1 f2 fd2 ps2 f3 fd3 ps3 f4 fd4 ps4 f5 fd5 ps5 f6 fd6 ps6 f7 fd7 ps7 f8 fd8 ps8} (c__law_deck : Cl P w K mg base 1 "_law_deck" f1 fd1 ps1 sp_deck) (c__law_draw : Cl P w K mg base 1 "_law_draw" f2 fd2 ps2 sp_draw)
    (c__law_words : Cl P w K mg base 4 "_law_words" f3 fd3 ps3 sp_words) (c__law_near : Cl P w K mg base 3 "_law_near" f4 fd4 ps4 sp_near) (c__law_pair_right : Cl P w K mg base 5 "_law_pair_right" f5 fd5 ps5 sp_pair) (c__law_alone : Cl P w K mg base 4 "_law_alone" f6 fd6 ps6 sp_alone)
    (c__law_row_right : Cl P w K mg base 4 "_law_row_right" f7 fd7 ps7 sp_row) (c__law_is : Cl P w K mg base 3 "_law_is" f8 fd8 ps8 (sp_is C)) (k_Ratio_1 : Ctor P w K mg base 2 "Ratio" C (sp_init C) 1 [] [.int 1] [0, 1, 2]) (d___str__ : Dun P w K mg base C "__str__" 1 (sp_str C))
    (F : Fun K "law" "law" s_law f fd) : FnG P w K mg base CX0 6 f fd ["_law_script"] (up K sp_law) := by
  refine okD F sc_law (fun ⟨ns, e, _⟩ => by rw [e]; rfl) ?_
  rintro X ⟨cdv, A, outer, s, H, E, rfl⟩ hgu hr
  refine ⟨_, (ds_cons (ds_set (i := 1) sc_law.nd (pd_call c__law_deck hr hgu (pda_cons (pd_var 0) pda_nil)))
      (ds_cons (ds_for PassesOwn.never rfl (di_range1 T.range (pda_cons pd_int pda_nil)) (dg_name (i := 2) sc_law.nd) (ds_cons (ds_set (i := 3) sc_law.nd (pd_call c__law_words hr hgu (pda_cons (pd_var 1) pda_nil)))
      (ds_cons (ds_setC (i := 4) sc_law.nd (pd_if (pt_eq hr (pd_call c__law_draw hr hgu (pda_cons (pd_var 1) (pda_cons pd_int pda_nil))) pd_int) (pd_call c__law_near hr hgu (pda_cons (pd_var 1) (pda_cons (pd_var 3) pda_nil))) (pd_call c__law_words hr hgu (pda_cons (pd_var 1) pda_nil))))
      (ds_cons (ds_if (pt_w (pw_o (pt_n (pt_b (pd_call c__law_pair_right hr hgu (pda_cons (pd_var 3) (pda_cons (pd_var 4) pda_nil))))) (pw_o (pt_n (pt_b (pd_call c__law_pair_right hr hgu (pda_cons (pd_var 4) (pda_cons (pd_var 3) pda_nil))))) (pw_o1 (pt_n (pt_b (pd_call c__law_alone hr hgu (pda_cons (pd_var 3) pda_nil)))))))) (ds_one (ds_ret pd_bl)) ds_nil)
      (ds_cons (ds_if (pt_n (pt_b (pd_call c__law_row_right hr hgu (pda_cons (pd_lst (pda_cons (pd_var 3) (pda_cons (pd_var 4) (pda_cons (pd_call c__law_near hr hgu (pda_cons (pd_var 1) (pda_cons (pd_var 4) pda_nil))) pda_nil)))) pda_nil)))) (ds_one (ds_ret pd_bl)) ds_nil)
      (ds_cons (ds_set (i := 5) sc_law.nd (pd_at (pd_var 3) pd_int))
      (ds_one (ds_if (pt_w (pw_o (pt_n (pt_b (pd_call c__law_is hr hgu (pda_cons (pd_mk k_Ratio_1 hr hgu (pdc_p (pda_cons (pd_var 5) pda_nil))) (pda_cons (pd_var 5) (pda_cons pd_int pda_nil)))))) (pw_o1 (pt_ne hr (pd_strO d___str__ T.str hr hgu (pd_mk k_Ratio_1 hr hgu (pdc_p (pda_cons (pd_var 5) pda_nil)))) (pd_strI T.str (pd_var 5)))))) (ds_one (ds_ret pd_bl)) ds_nil))))))))
      (ds_one (ds_ret pd_bl)))), ?_⟩
  rintro ds μ Q ⟨ns, rfl, hl, q⟩
  walk_at "d0"
  walk_at "dx"
  refine ⟨ns, rfl, hl, fun μ0 d c _ _ hd _ => ?_⟩
  walk_at "dx"
  simp only [dFor, dRng1]
  walk_at "dx"
  refine ⟨by decide, by decide, fun i ρ μ1 => Deck μ1 d c (30 * i) ∧ ∃ v2 v3 v4 v5, ρ = [some (.sq (ns.map .int)), some (.ref d), v2, v3, v4, v5], ⟨hd, _, _, _, _, rfl⟩, fun _ _ _ _ => trivial, ?_, ?_⟩
  · rintro i t ρ μ1 ht ⟨hd1, v2, v3, v4, v5, rfl⟩
    have hi : i < 40 := by
      have := (List.getElem?_eq_some_iff.mp ht).1
      rw [rng_len] at this
      simpa using this
    walk_at "dx"
    refine ⟨d, c, _, rfl, hd1, by omega, fun μ2 x y w1 hd2 _ => ?_⟩
    walk_at "dx"
    simp only [dAsgC, List.set]
    refine ⟨fun r μ' => ∃ z v, r = .tup [.int z, .int v] ∧ Wd 44 z v ∧ Deck μ' d c (30 * i + 20), ?_, ?_⟩
    · walk_at "dx"
      refine ⟨d, c, _, _, rfl, by decide, by decide, hd2, by omega, fun μ3 j _ _ hd3 _ => ?_⟩
      walk_at "dx"
      by_cases h : j = 0
      · simp only [h, decide_true, if_true]
        exact ⟨d, c, _, 40, x, y, rfl, hd3, by omega, w1, fun μ4 z v wd hd4 _ => ⟨z, v, rfl, wd, hd4.more (by omega)⟩⟩
      · simp only [h, decide_false, Bool.false_eq_true, if_false]
        refine ⟨d, c, _, rfl, hd3, by omega, fun μ4 z v wd hd4 _ => ⟨z, v, rfl, ⟨wd.1, ?_, ?_⟩, hd4.more (by omega)⟩⟩
        · exact Nat.lt_trans wd.2.1 (by decide)
        · exact Nat.lt_trans wd.2.2 (by decide)
    · rintro r μ3 ⟨z, v, rfl, w2, hd3⟩
      walk_at "dx"
      have w1' : Wd 44 x y := ⟨w1.1, Nat.lt_trans w1.2.1 (by decide), Nat.lt_trans w1.2.2 (by decide)⟩
      refine ⟨44, _, _, _, _, rfl, by decide, w1', w2, ?_⟩
      walk_at "dx"
      refine ⟨44, _, _, _, _, rfl, by decide, w2, w1', ?_⟩
      walk_at "dx"
      refine ⟨44, _, _, rfl, by decide, w1', ?_⟩
      walk_at "dx"
      refine ⟨d, c, _, 44, _, _, rfl, hd3, by omega, w2, fun μ4 z' v' w3 hd4 _ => ?_⟩
      walk_at "dx"
      refine ⟨sz (by decide), 48, _, rfl, by decide, (by show 3 ≤ 1000; decide), ?_, ?_⟩
      · intro t ht
        simp only [List.mem_cons, List.not_mem_nil, or_false] at ht
        have up48 : ∀ {p r : Int}, Wd 44 p r → Wd 48 p r := fun h => ⟨h.1, Nat.lt_trans h.2.1 (by decide), Nat.lt_trans h.2.2 (by decide)⟩
        rcases ht with rfl | rfl | rfl
        · exact ⟨_, _, rfl, up48 w1'⟩
        · exact ⟨_, _, rfl, up48 w2⟩
        · exact ⟨_, _, rfl, w3⟩
      walk_at "dx"
      have f1 : Fit 1 := ⟨by decide, by decide⟩
      have n1 : x.natAbs < 2 ^ 200 := Nat.lt_trans w1.2.1 (by decide)
      refine mk_done f1 ?_
      rw [low_one]
      refine ⟨x, 1, x, 1, rfl, f1, low_one, n1, by decide, ?_⟩
      walk_at "dx"
      refine mk_done f1 ?_
      rw [low_one]
      walk_at "dx"
      refine ⟨x, 1, rfl, n1, by decide, ?_⟩
      walk_at "dx"
      refine ⟨Nat.lt_trans (log_of (by decide) n1) (by decide), ?_⟩
      have et : txt x 1 = ((toString x : String) : Str) := if_pos rfl
      rw [et]
      simp only [decide_true, Bool.not_true, Bool.false_eq_true, if_false]
      exact ⟨hd4.more (by omega), _, _, _, _, rfl⟩
  · rintro ρ μ1 ⟨hd, v2, v3, v4, v5, rfl⟩
    walk_at "dx"
    exact q _
/-! ### what the top has left, and the head -/
theorem eq_ask {K : PySem.W.Frag} (ow : OwnTy K C) : EqAsk K C (okT C) where
  nf := fun t h => by
    unfold PySem.W.notFirst
    cases t with
    | own C' =>
      have e : C' = C := by simpa [okT] using h
      subst e
      simp [Ty.val]
    | _ => first | rfl | kernel_rfl | (simp [Ty.val]; decide +kernel)
  own := fun C' h => by
    have e : C' = C := by simpa [okT] using h
    subst e
    exact ow
theorem all_mk {l : PySem.W.OpenLaw} {w : World} {K : PySem.W.Frag} {h : Heap} {mg : Str → Option Value} {fa : Addr} (X : K.In h) (G : h.Ns mainGlobals mg) (hfa : mg "law" = some (.ref fa)) {C_Ratio : Addr}
    {f_divisor_of : Addr} {od_divisor_of an_divisor_of : Option Addr} {sl_divisor_of : Array (Option Value)} {oc_divisor_of kV_divisor_of dc_divisor_of pm_divisor_of cd_divisor_of ct_divisor_of : Value}
    {f__law_deck : Addr} {od__law_deck an__law_deck : Option Addr} {sl__law_deck : Array (Option Value)} {oc__law_deck kV__law_deck dc__law_deck pm__law_deck cd__law_deck ct__law_deck : Value}
    {f__law_draw : Addr} {od__law_draw an__law_draw : Option Addr} {sl__law_draw : Array (Option Value)} {oc__law_draw kV__law_draw dc__law_draw pm__law_draw cd__law_draw ct__law_draw : Value}
    {f__law_pick : Addr} {od__law_pick an__law_pick : Option Addr} {sl__law_pick : Array (Option Value)} {oc__law_pick kV__law_pick dc__law_pick pm__law_pick cd__law_pick ct__law_pick : Value}
    {f__law_whole : Addr} {od__law_whole an__law_whole : Option Addr} {sl__law_whole : Array (Option Value)} {oc__law_whole kV__law_whole dc__law_whole pm__law_whole cd__law_whole ct__law_whole : Value}
    {f__law_words : Addr} {od__law_words an__law_words : Option Addr} {sl__law_words : Array (Option Value)} {oc__law_words kV__law_words dc__law_words pm__law_words cd__law_words ct__law_words : Value}
    {f__law_near : Addr} {od__law_near an__law_near : Option Addr} {sl__law_near : Array (Option Value)} {oc__law_near kV__law_near dc__law_near pm__law_near cd__law_near ct__law_near : Value}
    {f__law_divisor : Addr} {od__law_divisor an__law_divisor : Option Addr} {sl__law_divisor : Array (Option Value)} {oc__law_divisor kV__law_divisor dc__law_divisor pm__law_divisor cd__law_divisor ct__law_divisor : Value}
    {f__law_lowest : Addr} {od__law_lowest an__law_lowest : Option Addr} {sl__law_lowest : Array (Option Value)} {oc__law_lowest kV__law_lowest dc__law_lowest pm__law_lowest cd__law_lowest ct__law_lowest : Value}
    {f__law_is : Addr} {od__law_is an__law_is : Option Addr} {sl__law_is : Array (Option Value)} {oc__law_is kV__law_is dc__law_is pm__law_is cd__law_is ct__law_is : Value}
    {f__law_text : Addr} {od__law_text an__law_text : Option Addr} {sl__law_text : Array (Option Value)} {oc__law_text kV__law_text dc__law_text pm__law_text cd__law_text ct__law_text : Value}
    {f__law_pair_right : Addr} {od__law_pair_right an__law_pair_right : Option Addr} {sl__law_pair_right : Array (Option Value)} {oc__law_pair_right kV__law_pair_right dc__law_pair_right pm__law_pair_right cd__law_pair_right ct__law_pair_right : Value}
    {f__law_alone : Addr} {od__law_alone an__law_alone : Option Addr} {sl__law_alone : Array (Option Value)} {oc__law_alone kV__law_alone dc__law_alone pm__law_alone cd__law_alone ct__law_alone : Value}
    {f__law_row_right : Addr} {od__law_row_right an__law_row_right : Option Addr} {sl__law_row_right : Array (Option Value)} {oc__law_row_right kV__law_row_right dc__law_row_right pm__law_row_right cd__law_row_right ct__law_row_right : Value}
    {f_law : Addr} {od_law an_law : Option Addr} {sl_law : Array (Option Value)} {oc_law kV_law dc_law pm_law cd_law ct_law : Value}
    {f_Ratio___init__ : Addr} {od_Ratio___init__ an_Ratio___init__ : Option Addr} {sl_Ratio___init__ : Array (Option Value)} {oc_Ratio___init__ kV_Ratio___init__ dc_Ratio___init__ pm_Ratio___init__ cd_Ratio___init__ ct_Ratio___init__ : Value}
    {T_Ratio___init__ : Addr} {tc_Ratio___init__ : Value} {td_Ratio___init__ : Option Addr} {tn_Ratio___init__ : Nat} {ts_Ratio___init__ : Array (Option Value)}
    {tk_Ratio___init___0 : Tok}
    {f_Ratio___eq__ : Addr} {od_Ratio___eq__ an_Ratio___eq__ : Option Addr} {sl_Ratio___eq__ : Array (Option Value)} {oc_Ratio___eq__ kV_Ratio___eq__ dc_Ratio___eq__ pm_Ratio___eq__ cd_Ratio___eq__ ct_Ratio___eq__ : Value}
    {f_Ratio_is_less : Addr} {od_Ratio_is_less an_Ratio_is_less : Option Addr} {sl_Ratio_is_less : Array (Option Value)} {oc_Ratio_is_less kV_Ratio_is_less dc_Ratio_is_less pm_Ratio_is_less cd_Ratio_is_less ct_Ratio_is_less : Value}
    {f_Ratio___add__ : Addr} {od_Ratio___add__ an_Ratio___add__ : Option Addr} {sl_Ratio___add__ : Array (Option Value)} {oc_Ratio___add__ kV_Ratio___add__ dc_Ratio___add__ pm_Ratio___add__ cd_Ratio___add__ ct_Ratio___add__ : Value}
    {f_Ratio___sub__ : Addr} {od_Ratio___sub__ an_Ratio___sub__ : Option Addr} {sl_Ratio___sub__ : Array (Option Value)} {oc_Ratio___sub__ kV_Ratio___sub__ dc_Ratio___sub__ pm_Ratio___sub__ cd_Ratio___sub__ ct_Ratio___sub__ : Value}
    {f_Ratio___mul__ : Addr} {od_Ratio___mul__ an_Ratio___mul__ : Option Addr} {sl_Ratio___mul__ : Array (Option Value)} {oc_Ratio___mul__ kV_Ratio___mul__ dc_Ratio___mul__ pm_Ratio___mul__ cd_Ratio___mul__ ct_Ratio___mul__ : Value}
    {f_Ratio___bool__ : Addr} {od_Ratio___bool__ an_Ratio___bool__ : Option Addr} {sl_Ratio___bool__ : Array (Option Value)} {oc_Ratio___bool__ kV_Ratio___bool__ dc_Ratio___bool__ pm_Ratio___bool__ cd_Ratio___bool__ ct_Ratio___bool__ : Value}
    {f_Ratio___str__ : Addr} {od_Ratio___str__ an_Ratio___str__ : Option Addr} {sl_Ratio___str__ : Array (Option Value)} {oc_Ratio___str__ kV_Ratio___str__ dc_Ratio___str__ pm_Ratio___str__ cd_Ratio___str__ ct_Ratio___str__ : Value}
    (o_n : PySem.W.specialIn K (.builtin "object.__class__") "__get__" = some (some (.builtin "getset_descriptor.__get__")))
    (o_t : PySem.W.takesIn K (.builtin "object.__class__") = some true)
    (a_Ratio : PySem.W.nsIn K mainGlobals "Ratio" = some (some (.ref C_Ratio)))
    (pg_Ratio : PySem.W.plainGet K C_Ratio Str.empty = true)
    (hd_Ratio : PySem.W.hasDictIn K C_Ratio = true)
    (po_Ratio : PySem.W.plainOver K C_Ratio = true)
    (sa_Ratio : PySem.W.findIn K (.ref C_Ratio) "__setattr__" = some (some (.builtin "object.__setattr__")))
    (mk_Ratio : PySem.W.makesIn K C_Ratio = true)
    (kc_Ratio : PySem.W.keepIn K (.ref C_Ratio) = true)
    (oa_Ratio : PySem.W.findIn K (.ref C_Ratio) "__class__" = some (some (.builtin "object.__class__")))
    (om_Ratio : PySem.W.mroIn K C_Ratio (.type "object") = some true)
    (sf_Ratio : PySem.W.selfFirst K C_Ratio = true)
    (ib_Ratio : PySem.W.isClsIn K C_Ratio = true)
    (it_Ratio : PySem.W.typeIn K (.ref C_Ratio) = some (.type "type"))
    (ne_Ratio : PySem.W.findIn K (.ref C_Ratio) "__ne__" = some (some (.builtin "object.__ne__")))
    (na_Ratio_top : PySem.W.findIn K (.ref C_Ratio) "top" = some none)
    (na_Ratio_bottom : PySem.W.findIn K (.ref C_Ratio) "bottom" = some none)
    (a_divisor_of : PySem.W.nsIn K mainGlobals "divisor_of" = some (some (.ref f_divisor_of)))
    (l_divisor_of : K.lookup f_divisor_of = some ⟨oc_divisor_of, od_divisor_of, .func (PySem.W.fnOf "divisor_of" "divisor_of" (defArgs s_divisor_of) (defBody s_divisor_of) (defScope s_divisor_of) .none kV_divisor_of dc_divisor_of pm_divisor_of an_divisor_of cd_divisor_of ct_divisor_of), sl_divisor_of⟩)
    (d_divisor_of : PySem.W.codeIn K cd_divisor_of "divisor_of" = true)
    (k_divisor_of : PySem.W.keepIn K (.ref f_divisor_of) = true)
    (a__law_deck : PySem.W.nsIn K mainGlobals "_law_deck" = some (some (.ref f__law_deck)))
    (l__law_deck : K.lookup f__law_deck = some ⟨oc__law_deck, od__law_deck, .func (PySem.W.fnOf "_law_deck" "_law_deck" (defArgs s__law_deck) (defBody s__law_deck) (defScope s__law_deck) .none kV__law_deck dc__law_deck pm__law_deck an__law_deck cd__law_deck ct__law_deck), sl__law_deck⟩)
    (d__law_deck : PySem.W.codeIn K cd__law_deck "_law_deck" = true)
    (k__law_deck : PySem.W.keepIn K (.ref f__law_deck) = true)
    (a__law_draw : PySem.W.nsIn K mainGlobals "_law_draw" = some (some (.ref f__law_draw)))
    (l__law_draw : K.lookup f__law_draw = some ⟨oc__law_draw, od__law_draw, .func (PySem.W.fnOf "_law_draw" "_law_draw" (defArgs s__law_draw) (defBody s__law_draw) (defScope s__law_draw) .none kV__law_draw dc__law_draw pm__law_draw an__law_draw cd__law_draw ct__law_draw), sl__law_draw⟩)
    (d__law_draw : PySem.W.codeIn K cd__law_draw "_law_draw" = true)
    (k__law_draw : PySem.W.keepIn K (.ref f__law_draw) = true)
    (a__law_pick : PySem.W.nsIn K mainGlobals "_law_pick" = some (some (.ref f__law_pick)))
    (l__law_pick : K.lookup f__law_pick = some ⟨oc__law_pick, od__law_pick, .func (PySem.W.fnOf "_law_pick" "_law_pick" (defArgs s__law_pick) (defBody s__law_pick) (defScope s__law_pick) .none kV__law_pick dc__law_pick pm__law_pick an__law_pick cd__law_pick ct__law_pick), sl__law_pick⟩)
    (d__law_pick : PySem.W.codeIn K cd__law_pick "_law_pick" = true)
    (k__law_pick : PySem.W.keepIn K (.ref f__law_pick) = true)
    (a__law_whole : PySem.W.nsIn K mainGlobals "_law_whole" = some (some (.ref f__law_whole)))
    (l__law_whole : K.lookup f__law_whole = some ⟨oc__law_whole, od__law_whole, .func (PySem.W.fnOf "_law_whole" "_law_whole" (defArgs s__law_whole) (defBody s__law_whole) (defScope s__law_whole) .none kV__law_whole dc__law_whole pm__law_whole an__law_whole cd__law_whole ct__law_whole), sl__law_whole⟩)
    (d__law_whole : PySem.W.codeIn K cd__law_whole "_law_whole" = true)
    (k__law_whole : PySem.W.keepIn K (.ref f__law_whole) = true)
    (a__law_words : PySem.W.nsIn K mainGlobals "_law_words" = some (some (.ref f__law_words)))
    (l__law_words : K.lookup f__law_words = some ⟨oc__law_words, od__law_words, .func (PySem.W.fnOf "_law_words" "_law_words" (defArgs s__law_words) (defBody s__law_words) (defScope s__law_words) .none kV__law_words dc__law_words pm__law_words an__law_words cd__law_words ct__law_words), sl__law_words⟩)
    (d__law_words : PySem.W.codeIn K cd__law_words "_law_words" = true)
    (k__law_words : PySem.W.keepIn K (.ref f__law_words) = true)
    (a__law_near : PySem.W.nsIn K mainGlobals "_law_near" = some (some (.ref f__law_near)))
    (l__law_near : K.lookup f__law_near = some ⟨oc__law_near, od__law_near, .func (PySem.W.fnOf "_law_near" "_law_near" (defArgs s__law_near) (defBody s__law_near) (defScope s__law_near) .none kV__law_near dc__law_near pm__law_near an__law_near cd__law_near ct__law_near), sl__law_near⟩)
    (d__law_near : PySem.W.codeIn K cd__law_near "_law_near" = true)
    (k__law_near : PySem.W.keepIn K (.ref f__law_near) = true)
    (a__law_divisor : PySem.W.nsIn K mainGlobals "_law_divisor" = some (some (.ref f__law_divisor)))
    (l__law_divisor : K.lookup f__law_divisor = some ⟨oc__law_divisor, od__law_divisor, .func (PySem.W.fnOf "_law_divisor" "_law_divisor" (defArgs s__law_divisor) (defBody s__law_divisor) (defScope s__law_divisor) .none kV__law_divisor dc__law_divisor pm__law_divisor an__law_divisor cd__law_divisor ct__law_divisor), sl__law_divisor⟩)
    (d__law_divisor : PySem.W.codeIn K cd__law_divisor "_law_divisor" = true)
    (k__law_divisor : PySem.W.keepIn K (.ref f__law_divisor) = true)
    (a__law_lowest : PySem.W.nsIn K mainGlobals "_law_lowest" = some (some (.ref f__law_lowest)))
    (l__law_lowest : K.lookup f__law_lowest = some ⟨oc__law_lowest, od__law_lowest, .func (PySem.W.fnOf "_law_lowest" "_law_lowest" (defArgs s__law_lowest) (defBody s__law_lowest) (defScope s__law_lowest) .none kV__law_lowest dc__law_lowest pm__law_lowest an__law_lowest cd__law_lowest ct__law_lowest), sl__law_lowest⟩)
    (d__law_lowest : PySem.W.codeIn K cd__law_lowest "_law_lowest" = true)
    (k__law_lowest : PySem.W.keepIn K (.ref f__law_lowest) = true)
    (a__law_is : PySem.W.nsIn K mainGlobals "_law_is" = some (some (.ref f__law_is)))
    (l__law_is : K.lookup f__law_is = some ⟨oc__law_is, od__law_is, .func (PySem.W.fnOf "_law_is" "_law_is" (defArgs s__law_is) (defBody s__law_is) (defScope s__law_is) .none kV__law_is dc__law_is pm__law_is an__law_is cd__law_is ct__law_is), sl__law_is⟩)
    (d__law_is : PySem.W.codeIn K cd__law_is "_law_is" = true)
    (k__law_is : PySem.W.keepIn K (.ref f__law_is) = true)
    (a__law_text : PySem.W.nsIn K mainGlobals "_law_text" = some (some (.ref f__law_text)))
    (l__law_text : K.lookup f__law_text = some ⟨oc__law_text, od__law_text, .func (PySem.W.fnOf "_law_text" "_law_text" (defArgs s__law_text) (defBody s__law_text) (defScope s__law_text) .none kV__law_text dc__law_text pm__law_text an__law_text cd__law_text ct__law_text), sl__law_text⟩)
    (d__law_text : PySem.W.codeIn K cd__law_text "_law_text" = true)
    (k__law_text : PySem.W.keepIn K (.ref f__law_text) = true)
    (a__law_pair_right : PySem.W.nsIn K mainGlobals "_law_pair_right" = some (some (.ref f__law_pair_right)))
    (l__law_pair_right : K.lookup f__law_pair_right = some ⟨oc__law_pair_right, od__law_pair_right, .func (PySem.W.fnOf "_law_pair_right" "_law_pair_right" (defArgs s__law_pair_right) (defBody s__law_pair_right) (defScope s__law_pair_right) .none kV__law_pair_right dc__law_pair_right pm__law_pair_right an__law_pair_right cd__law_pair_right ct__law_pair_right), sl__law_pair_right⟩)
    (d__law_pair_right : PySem.W.codeIn K cd__law_pair_right "_law_pair_right" = true)
    (k__law_pair_right : PySem.W.keepIn K (.ref f__law_pair_right) = true)
    (a__law_alone : PySem.W.nsIn K mainGlobals "_law_alone" = some (some (.ref f__law_alone)))
    (l__law_alone : K.lookup f__law_alone = some ⟨oc__law_alone, od__law_alone, .func (PySem.W.fnOf "_law_alone" "_law_alone" (defArgs s__law_alone) (defBody s__law_alone) (defScope s__law_alone) .none kV__law_alone dc__law_alone pm__law_alone an__law_alone cd__law_alone ct__law_alone), sl__law_alone⟩)
    (d__law_alone : PySem.W.codeIn K cd__law_alone "_law_alone" = true)
    (k__law_alone : PySem.W.keepIn K (.ref f__law_alone) = true)
    (a__law_row_right : PySem.W.nsIn K mainGlobals "_law_row_right" = some (some (.ref f__law_row_right)))
    (l__law_row_right : K.lookup f__law_row_right = some ⟨oc__law_row_right, od__law_row_right, .func (PySem.W.fnOf "_law_row_right" "_law_row_right" (defArgs s__law_row_right) (defBody s__law_row_right) (defScope s__law_row_right) .none kV__law_row_right dc__law_row_right pm__law_row_right an__law_row_right cd__law_row_right ct__law_row_right), sl__law_row_right⟩)
    (d__law_row_right : PySem.W.codeIn K cd__law_row_right "_law_row_right" = true)
    (k__law_row_right : PySem.W.keepIn K (.ref f__law_row_right) = true)
    (a_law : PySem.W.nsIn K mainGlobals "law" = some (some (.ref f_law)))
    (l_law : K.lookup f_law = some ⟨oc_law, od_law, .func (PySem.W.fnOf "law" "law" (defArgs s_law) (defBody s_law) (defScope s_law) .none kV_law dc_law pm_law an_law cd_law ct_law), sl_law⟩)
    (d_law : PySem.W.codeIn K cd_law "law" = true)
    (k_law : PySem.W.keepIn K (.ref f_law) = true)
    (m_Ratio___init__ : PySem.W.findIn K (.ref C_Ratio) "__init__" = some (some (.ref f_Ratio___init__)))
    (l_Ratio___init__ : K.lookup f_Ratio___init__ = some ⟨oc_Ratio___init__, od_Ratio___init__, .func (PySem.W.fnOf "__init__" "Ratio.__init__" (defArgs s_Ratio___init__) (defBody s_Ratio___init__) (defScope s_Ratio___init__) (.ref T_Ratio___init__) kV_Ratio___init__ dc_Ratio___init__ pm_Ratio___init__ an_Ratio___init__ cd_Ratio___init__ ct_Ratio___init__), sl_Ratio___init__⟩)
    (d_Ratio___init__ : PySem.W.codeIn K cd_Ratio___init__ "Ratio.__init__" = true)
    (k_Ratio___init__ : PySem.W.keepIn K (.ref f_Ratio___init__) = true)
    (n_Ratio___init__ : PySem.W.isFn K (.ref f_Ratio___init__) = true)
    (t_Ratio___init__ : K.lookup T_Ratio___init__ = some ⟨tc_Ratio___init__, td_Ratio___init__, .seq ([.int 1 tk_Ratio___init___0] : List Value).toArray tn_Ratio___init__, ts_Ratio___init__⟩)
    (m_Ratio___eq__ : PySem.W.findIn K (.ref C_Ratio) "__eq__" = some (some (.ref f_Ratio___eq__)))
    (l_Ratio___eq__ : K.lookup f_Ratio___eq__ = some ⟨oc_Ratio___eq__, od_Ratio___eq__, .func (PySem.W.fnOf "__eq__" "Ratio.__eq__" (defArgs s_Ratio___eq__) (defBody s_Ratio___eq__) (defScope s_Ratio___eq__) .none kV_Ratio___eq__ dc_Ratio___eq__ pm_Ratio___eq__ an_Ratio___eq__ cd_Ratio___eq__ ct_Ratio___eq__), sl_Ratio___eq__⟩)
    (d_Ratio___eq__ : PySem.W.codeIn K cd_Ratio___eq__ "Ratio.__eq__" = true)
    (k_Ratio___eq__ : PySem.W.keepIn K (.ref f_Ratio___eq__) = true)
    (n_Ratio___eq__ : PySem.W.isFn K (.ref f_Ratio___eq__) = true)
    (m_Ratio_is_less : PySem.W.findIn K (.ref C_Ratio) "is_less" = some (some (.ref f_Ratio_is_less)))
    (l_Ratio_is_less : K.lookup f_Ratio_is_less = some ⟨oc_Ratio_is_less, od_Ratio_is_less, .func (PySem.W.fnOf "is_less" "Ratio.is_less" (defArgs s_Ratio_is_less) (defBody s_Ratio_is_less) (defScope s_Ratio_is_less) .none kV_Ratio_is_less dc_Ratio_is_less pm_Ratio_is_less an_Ratio_is_less cd_Ratio_is_less ct_Ratio_is_less), sl_Ratio_is_less⟩)
    (d_Ratio_is_less : PySem.W.codeIn K cd_Ratio_is_less "Ratio.is_less" = true)
    (k_Ratio_is_less : PySem.W.keepIn K (.ref f_Ratio_is_less) = true)
    (n_Ratio_is_less : PySem.W.isFn K (.ref f_Ratio_is_less) = true)
    (m_Ratio___add__ : PySem.W.findIn K (.ref C_Ratio) "__add__" = some (some (.ref f_Ratio___add__)))
    (l_Ratio___add__ : K.lookup f_Ratio___add__ = some ⟨oc_Ratio___add__, od_Ratio___add__, .func (PySem.W.fnOf "__add__" "Ratio.__add__" (defArgs s_Ratio___add__) (defBody s_Ratio___add__) (defScope s_Ratio___add__) .none kV_Ratio___add__ dc_Ratio___add__ pm_Ratio___add__ an_Ratio___add__ cd_Ratio___add__ ct_Ratio___add__), sl_Ratio___add__⟩)
    (d_Ratio___add__ : PySem.W.codeIn K cd_Ratio___add__ "Ratio.__add__" = true)
    (k_Ratio___add__ : PySem.W.keepIn K (.ref f_Ratio___add__) = true)
    (n_Ratio___add__ : PySem.W.isFn K (.ref f_Ratio___add__) = true)
    (m_Ratio___sub__ : PySem.W.findIn K (.ref C_Ratio) "__sub__" = some (some (.ref f_Ratio___sub__)))
    (l_Ratio___sub__ : K.lookup f_Ratio___sub__ = some ⟨oc_Ratio___sub__, od_Ratio___sub__, .func (PySem.W.fnOf "__sub__" "Ratio.__sub__" (defArgs s_Ratio___sub__) (defBody s_Ratio___sub__) (defScope s_Ratio___sub__) .none kV_Ratio___sub__ dc_Ratio___sub__ pm_Ratio___sub__ an_Ratio___sub__ cd_Ratio___sub__ ct_Ratio___sub__), sl_Ratio___sub__⟩)
    (d_Ratio___sub__ : PySem.W.codeIn K cd_Ratio___sub__ "Ratio.__sub__" = true)
    (k_Ratio___sub__ : PySem.W.keepIn K (.ref f_Ratio___sub__) = true)
    (n_Ratio___sub__ : PySem.W.isFn K (.ref f_Ratio___sub__) = true)
    (m_Ratio___mul__ : PySem.W.findIn K (.ref C_Ratio) "__mul__" = some (some (.ref f_Ratio___mul__)))
    (l_Ratio___mul__ : K.lookup f_Ratio___mul__ = some ⟨oc_Ratio___mul__, od_Ratio___mul__, .func (PySem.W.fnOf "__mul__" "Ratio.__mul__" (defArgs s_Ratio___mul__) (defBody s_Ratio___mul__) (defScope s_Ratio___mul__) .none kV_Ratio___mul__ dc_Ratio___mul__ pm_Ratio___mul__ an_Ratio___mul__ cd_Ratio___mul__ ct_Ratio___mul__), sl_Ratio___mul__⟩)
    (d_Ratio___mul__ : PySem.W.codeIn K cd_Ratio___mul__ "Ratio.__mul__" = true)
    (k_Ratio___mul__ : PySem.W.keepIn K (.ref f_Ratio___mul__) = true)
    (n_Ratio___mul__ : PySem.W.isFn K (.ref f_Ratio___mul__) = true)
    (m_Ratio___bool__ : PySem.W.findIn K (.ref C_Ratio) "__bool__" = some (some (.ref f_Ratio___bool__)))
    (l_Ratio___bool__ : K.lookup f_Ratio___bool__ = some ⟨oc_Ratio___bool__, od_Ratio___bool__, .func (PySem.W.fnOf "__bool__" "Ratio.__bool__" (defArgs s_Ratio___bool__) (defBody s_Ratio___bool__) (defScope s_Ratio___bool__) .none kV_Ratio___bool__ dc_Ratio___bool__ pm_Ratio___bool__ an_Ratio___bool__ cd_Ratio___bool__ ct_Ratio___bool__), sl_Ratio___bool__⟩)
    (d_Ratio___bool__ : PySem.W.codeIn K cd_Ratio___bool__ "Ratio.__bool__" = true)
    (k_Ratio___bool__ : PySem.W.keepIn K (.ref f_Ratio___bool__) = true)
    (n_Ratio___bool__ : PySem.W.isFn K (.ref f_Ratio___bool__) = true)
    (m_Ratio___str__ : PySem.W.findIn K (.ref C_Ratio) "__str__" = some (some (.ref f_Ratio___str__)))
    (l_Ratio___str__ : K.lookup f_Ratio___str__ = some ⟨oc_Ratio___str__, od_Ratio___str__, .func (PySem.W.fnOf "__str__" "Ratio.__str__" (defArgs s_Ratio___str__) (defBody s_Ratio___str__) (defScope s_Ratio___str__) .none kV_Ratio___str__ dc_Ratio___str__ pm_Ratio___str__ an_Ratio___str__ cd_Ratio___str__ ct_Ratio___str__), sl_Ratio___str__⟩)
    (d_Ratio___str__ : PySem.W.codeIn K cd_Ratio___str__ "Ratio.__str__" = true)
    (k_Ratio___str__ : PySem.W.keepIn K (.ref f_Ratio___str__) = true)
    (n_Ratio___str__ : PySem.W.isFn K (.ref f_Ratio___str__) = true)
    (z1 : PySem.W.nsIn K mainGlobals "abs" = some none) (z2 : PySem.W.nsIn K mainGlobals "bool" = some none) (z3 : PySem.W.nsIn K mainGlobals "isinstance" = some none) (z4 : PySem.W.nsIn K mainGlobals "str" = some none) (z5 : PySem.W.nsIn K mainGlobals "list" = some none)
    (z6 : PySem.W.nsIn K mainGlobals "repr" = some none) (z7 : PySem.W.nsIn K mainGlobals "range" = some none) (z8 : PySem.W.nsIn K mainGlobals "len" = some none) :
    ∃ fd : FuncData, (∀ (s : Shared) (v : Value), BindsTo s fd ⟨[v], []⟩ [("_law_script", v)]) ∧ ∀ base : Heap, K.In base → base.Ns mainGlobals mg → FnG l.prog w K mg base CX0 6 fa fd ["_law_script"] (up K sp_law) := by
  have e := hfa.symm.trans (PySem.W.mg_of X G a_law)
  cases e
  have T : Txt mg C_Ratio := ⟨PySem.W.mg_of X G a_Ratio, PySem.W.mg_none_of X G z1, PySem.W.mg_none_of X G z2, PySem.W.mg_none_of X G z3, PySem.W.mg_none_of X G z4, PySem.W.mg_none_of X G z5, PySem.W.mg_none_of X G z6, PySem.W.mg_none_of X G z7, PySem.W.mg_none_of X G z8⟩
  have ic_Ratio : ((PySem.W.clsIn K C_Ratio).isSome && PySem.W.typeIn K (.ref C_Ratio) == some (.type "type")) = true := by rw [it_Ratio, ← isCls_eq, ib_Ratio]; rfl
  have cl_Ratio : Cls K C_Ratio := ⟨pg_Ratio, hd_Ratio, po_Ratio, sa_Ratio⟩
  have ow_Ratio : OwnTy K C_Ratio := ⟨cl_Ratio, oa_Ratio, o_n, o_t, om_Ratio⟩
  have F_divisor_of := fun_mk (st := s_divisor_of) l_divisor_of d_divisor_of k_divisor_of
  have b_divisor_of := F_divisor_of.binds (ps := ["one", "other"]) fun _ _ _ _ _ _ us hl => match us, hl with | [_, _], _ => rfl
  have F__law_deck := fun_mk (st := s__law_deck) l__law_deck d__law_deck k__law_deck
  have b__law_deck := F__law_deck.binds (ps := ["_law_script"]) fun _ _ _ _ _ _ us hl => match us, hl with | [_], _ => rfl
  have F__law_draw := fun_mk (st := s__law_draw) l__law_draw d__law_draw k__law_draw
  have b__law_draw := F__law_draw.binds (ps := ["_law_deck_here", "_law_many"]) fun _ _ _ _ _ _ us hl => match us, hl with | [_, _], _ => rfl
  have F__law_pick := fun_mk (st := s__law_pick) l__law_pick d__law_pick k__law_pick
  have b__law_pick := F__law_pick.binds (ps := ["_law_deck_here", "_law_some"]) fun _ _ _ _ _ _ us hl => match us, hl with | [_, _], _ => rfl
  have F__law_whole := fun_mk (st := s__law_whole) l__law_whole d__law_whole k__law_whole
  have b__law_whole := F__law_whole.binds (ps := ["_law_deck_here"]) fun _ _ _ _ _ _ us hl => match us, hl with | [_], _ => rfl
  have F__law_words := fun_mk (st := s__law_words) l__law_words d__law_words k__law_words
  have b__law_words := F__law_words.binds (ps := ["_law_deck_here"]) fun _ _ _ _ _ _ us hl => match us, hl with | [_], _ => rfl
  have F__law_near := fun_mk (st := s__law_near) l__law_near d__law_near k__law_near
  have b__law_near := F__law_near.binds (ps := ["_law_deck_here", "_law_words_here"]) fun _ _ _ _ _ _ us hl => match us, hl with | [_, _], _ => rfl
  have F__law_divisor := fun_mk (st := s__law_divisor) l__law_divisor d__law_divisor k__law_divisor
  have b__law_divisor := F__law_divisor.binds (ps := ["_law_first", "_law_second"]) fun _ _ _ _ _ _ us hl => match us, hl with | [_, _], _ => rfl
  have F__law_lowest := fun_mk (st := s__law_lowest) l__law_lowest d__law_lowest k__law_lowest
  have b__law_lowest := F__law_lowest.binds (ps := ["_law_high", "_law_low"]) fun _ _ _ _ _ _ us hl => match us, hl with | [_, _], _ => rfl
  have F__law_is := fun_mk (st := s__law_is) l__law_is d__law_is k__law_is
  have b__law_is := F__law_is.binds (ps := ["_law_made", "_law_high", "_law_low"]) fun _ _ _ _ _ _ us hl => match us, hl with | [_, _, _], _ => rfl
  have F__law_text := fun_mk (st := s__law_text) l__law_text d__law_text k__law_text
  have b__law_text := F__law_text.binds (ps := ["_law_high", "_law_low"]) fun _ _ _ _ _ _ us hl => match us, hl with | [_, _], _ => rfl
  have F__law_pair_right := fun_mk (st := s__law_pair_right) l__law_pair_right d__law_pair_right k__law_pair_right
  have b__law_pair_right := F__law_pair_right.binds (ps := ["_law_first", "_law_second"]) fun _ _ _ _ _ _ us hl => match us, hl with | [_, _], _ => rfl
  have F__law_alone := fun_mk (st := s__law_alone) l__law_alone d__law_alone k__law_alone
  have b__law_alone := F__law_alone.binds (ps := ["_law_words_here"]) fun _ _ _ _ _ _ us hl => match us, hl with | [_], _ => rfl
  have F__law_row_right := fun_mk (st := s__law_row_right) l__law_row_right d__law_row_right k__law_row_right
  have b__law_row_right := F__law_row_right.binds (ps := ["_law_words_here"]) fun _ _ _ _ _ _ us hl => match us, hl with | [_], _ => rfl
  have F_law := fun_mk (st := s_law) l_law d_law k_law
  have b_law := F_law.binds (ps := ["_law_script"]) fun _ _ _ _ _ _ us hl => match us, hl with | [_], _ => rfl
  have F_Ratio___init__ := funD_mk (st := s_Ratio___init__) (dvs := [.int 1]) (kws := []) l_Ratio___init__ d_Ratio___init__ k_Ratio___init__ (dfl_mk t_Ratio___init__ rfl (.cons ⟨_, rfl⟩ .nil) (by simp)) (.inl rfl)
  have me_Ratio___init__ : Meth K C_Ratio "__init__" f_Ratio___init__ := ⟨m_Ratio___init__, n_Ratio___init__, k_Ratio___init__⟩
  have F_Ratio___eq__ := fun_mk (st := s_Ratio___eq__) l_Ratio___eq__ d_Ratio___eq__ k_Ratio___eq__
  have me_Ratio___eq__ : Meth K C_Ratio "__eq__" f_Ratio___eq__ := ⟨m_Ratio___eq__, n_Ratio___eq__, k_Ratio___eq__⟩
  have b_Ratio___eq__ := F_Ratio___eq__.binds (ps := ["self", "other"]) fun _ _ _ _ _ _ us hl => match us, hl with | [_, _], _ => rfl
  have F_Ratio_is_less := fun_mk (st := s_Ratio_is_less) l_Ratio_is_less d_Ratio_is_less k_Ratio_is_less
  have me_Ratio_is_less : Meth K C_Ratio "is_less" f_Ratio_is_less := ⟨m_Ratio_is_less, n_Ratio_is_less, k_Ratio_is_less⟩
  have b_Ratio_is_less := F_Ratio_is_less.binds (ps := ["self", "other"]) fun _ _ _ _ _ _ us hl => match us, hl with | [_, _], _ => rfl
  have F_Ratio___add__ := fun_mk (st := s_Ratio___add__) l_Ratio___add__ d_Ratio___add__ k_Ratio___add__
  have me_Ratio___add__ : Meth K C_Ratio "__add__" f_Ratio___add__ := ⟨m_Ratio___add__, n_Ratio___add__, k_Ratio___add__⟩
  have b_Ratio___add__ := F_Ratio___add__.binds (ps := ["self", "other"]) fun _ _ _ _ _ _ us hl => match us, hl with | [_, _], _ => rfl
  have F_Ratio___sub__ := fun_mk (st := s_Ratio___sub__) l_Ratio___sub__ d_Ratio___sub__ k_Ratio___sub__
  have me_Ratio___sub__ : Meth K C_Ratio "__sub__" f_Ratio___sub__ := ⟨m_Ratio___sub__, n_Ratio___sub__, k_Ratio___sub__⟩
  have b_Ratio___sub__ := F_Ratio___sub__.binds (ps := ["self", "other"]) fun _ _ _ _ _ _ us hl => match us, hl with | [_, _], _ => rfl
  have F_Ratio___mul__ := fun_mk (st := s_Ratio___mul__) l_Ratio___mul__ d_Ratio___mul__ k_Ratio___mul__
  have me_Ratio___mul__ : Meth K C_Ratio "__mul__" f_Ratio___mul__ := ⟨m_Ratio___mul__, n_Ratio___mul__, k_Ratio___mul__⟩
  have b_Ratio___mul__ := F_Ratio___mul__.binds (ps := ["self", "other"]) fun _ _ _ _ _ _ us hl => match us, hl with | [_, _], _ => rfl
  have F_Ratio___bool__ := fun_mk (st := s_Ratio___bool__) l_Ratio___bool__ d_Ratio___bool__ k_Ratio___bool__
  have me_Ratio___bool__ : Meth K C_Ratio "__bool__" f_Ratio___bool__ := ⟨m_Ratio___bool__, n_Ratio___bool__, k_Ratio___bool__⟩
  have b_Ratio___bool__ := F_Ratio___bool__.binds (ps := ["self"]) fun _ _ _ _ _ _ us hl => match us, hl with | [_], _ => rfl
  have F_Ratio___str__ := fun_mk (st := s_Ratio___str__) l_Ratio___str__ d_Ratio___str__ k_Ratio___str__
  have me_Ratio___str__ : Meth K C_Ratio "__str__" f_Ratio___str__ := ⟨m_Ratio___str__, n_Ratio___str__, k_Ratio___str__⟩
  have b_Ratio___str__ := F_Ratio___str__.binds (ps := ["self"]) fun _ _ _ _ _ _ us hl => match us, hl with | [_], _ => rfl
  have B_Ratio___init___0_bottom_top := Dl.FunD.bnd1 (ps := ["self", "top", "bottom"]) F_Ratio___init__ 1 ["bottom", "top"] [0, 2, 1] (by simp) (.cons (fun _ _ => .int _) .nil) fun _ _ _ _ _ _ _ us ws its h1 h2 h3 => match us, ws, its, h1, h2, h3 with | [_], [_, _], [_], _, _, _ => ⟨_, rfl, rfl⟩
  have B_Ratio___init___1 := Dl.FunD.bnd1 (ps := ["self", "top", "bottom"]) F_Ratio___init__ 2 [] [0, 1, 2] (by simp) (.cons (fun _ _ => .int _) .nil) fun _ _ _ _ _ _ _ us ws its h1 h2 h3 => match us, ws, its, h1, h2, h3 with | [_, _], [], [_], _, _, _ => ⟨_, rfl, rfl⟩
  have B_Ratio___init___2 := Dl.FunD.bnd1 (ps := ["self", "top", "bottom"]) F_Ratio___init__ 3 [] [0, 1, 2] (by simp) (.cons (fun _ _ => .int _) .nil) fun _ _ _ _ _ _ _ us ws its h1 h2 h3 => match us, ws, its, h1, h2, h3 with | [_, _, _], [], [_], _, _, _ => ⟨_, rfl, rfl⟩
  have B_Ratio_is_less_0_other := Dl.Fun.bnd (ps := ["self", "other"]) F_Ratio_is_less 1 ["other"] [0, 1] fun _ _ _ _ _ _ us ws h1 h2 => match us, ws, h1, h2 with | [_], [_], _, _ => rfl
  have B_Ratio_is_less_1 := Dl.Fun.bnd (ps := ["self", "other"]) F_Ratio_is_less 2 [] [0, 1] fun _ _ _ _ _ _ us ws h1 h2 => match us, ws, h1, h2 with | [_, _], [], _, _ => rfl
  refine ⟨PySem.W.fnOf "law" "law" (defArgs s_law) (defBody s_law) (defScope s_law) .none kV_law dc_law pm_law an_law cd_law ct_law, fun s v => .of_eq rfl, fun base _ _ => ?_⟩
  have ia : IsA K (.ref C_Ratio) (an C_Ratio) := isA_o ic_Ratio fun C' b hb => by
    by_cases h : C' = C_Ratio
    · subst h
      rw [if_pos rfl] at hb
      cases hb
      exact ⟨by unfold PySem.W.kitOne; simp, ow_Ratio⟩
    · rw [if_neg h] at hb
      cases hb
  have ib : IsA K (.type "bool") (ansB .bl fun _ => none) := isA_b .bl fun _ z => nomatch z
  have ea := eq_ask ow_Ratio
  have no : NeObj K C_Ratio := ⟨ne_Ratio, om_Ratio⟩
  have c_div : Cl l.prog w K mg base 1 "divisor_of" _ _ _ sp_gcd := ⟨ok_divisor_of T F_divisor_of, PySem.W.mg_of X G a_divisor_of, F_divisor_of.kp, b_divisor_of⟩
  have c_ldiv : Cl l.prog w K mg base 1 "_law_divisor" _ _ _ sp_gcd := ⟨ok_law_divisor T F__law_divisor, PySem.W.mg_of X G a__law_divisor, F__law_divisor.kp, b__law_divisor⟩
  have fI : FnG l.prog w K mg base CX0 2 _ _ _ (up K (sp_init C_Ratio)) := ok_init T cl_Ratio na_Ratio_top na_Ratio_bottom c_div F_Ratio___init__
  have mk : Mk K C_Ratio f_Ratio___init__ := ⟨mk_Ratio, m_Ratio___init__, n_Ratio___init__, kc_Ratio⟩
  have k2 : Ctor l.prog w K mg base 2 "Ratio" C_Ratio (sp_init C_Ratio) 2 [] [.int 1] [0, 1, 2] := ⟨_, _, _, mk, T.Ratio, fI, B_Ratio___init___2⟩
  have k1 : Ctor l.prog w K mg base 2 "Ratio" C_Ratio (sp_init C_Ratio) 1 [] [.int 1] [0, 1, 2] := ⟨_, _, _, mk, T.Ratio, fI, B_Ratio___init___1⟩
  have k0 : Ctor l.prog w K mg base 2 "Ratio" C_Ratio (sp_init C_Ratio) 0 ["bottom", "top"] [.int 1] [0, 2, 1] := ⟨_, _, _, mk, T.Ratio, fI, B_Ratio___init___0_bottom_top⟩
  have d_eq : Dun l.prog w K mg base C_Ratio "__eq__" 1 (sp_eq C_Ratio) := ⟨_, _, _, m_Ratio___eq__, n_Ratio___eq__, ok_eq T cl_Ratio na_Ratio_top na_Ratio_bottom ia F_Ratio___eq__, b_Ratio___eq__⟩
  have d_bool : Dun l.prog w K mg base C_Ratio "__bool__" 1 (sp_bool C_Ratio) := ⟨_, _, _, m_Ratio___bool__, n_Ratio___bool__, ok_bool T cl_Ratio na_Ratio_top F_Ratio___bool__, b_Ratio___bool__⟩
  have d_str : Dun l.prog w K mg base C_Ratio "__str__" 1 (sp_str C_Ratio) := ⟨_, _, _, m_Ratio___str__, n_Ratio___str__, ok_str T cl_Ratio na_Ratio_top na_Ratio_bottom F_Ratio___str__, b_Ratio___str__⟩
  have d_add : Dun l.prog w K mg base C_Ratio "__add__" 4 _ := ⟨_, _, _, m_Ratio___add__, n_Ratio___add__, ok_add T cl_Ratio na_Ratio_top na_Ratio_bottom k2 F_Ratio___add__, b_Ratio___add__⟩
  have d_sub : Dun l.prog w K mg base C_Ratio "__sub__" 4 _ := ⟨_, _, _, m_Ratio___sub__, n_Ratio___sub__, ok_sub T cl_Ratio na_Ratio_top na_Ratio_bottom k2 F_Ratio___sub__, b_Ratio___sub__⟩
  have d_mul : Dun l.prog w K mg base C_Ratio "__mul__" 4 _ := ⟨_, _, _, m_Ratio___mul__, n_Ratio___mul__, ok_mul T cl_Ratio na_Ratio_top na_Ratio_bottom k2 F_Ratio___mul__, b_Ratio___mul__⟩
  have fL : FnG l.prog w K mg base CX0 1 _ _ _ (up K (sp_less C_Ratio)) := ok_less T cl_Ratio na_Ratio_top na_Ratio_bottom F_Ratio_is_less
  have m1 : MeC l.prog w K mg base 1 C_Ratio "is_less" (sp_less C_Ratio) 1 [] [] [0, 1] := ⟨_, _, _, cl_Ratio, me_Ratio_is_less, fL, B_Ratio_is_less_1⟩
  have m0 : MeC l.prog w K mg base 1 C_Ratio "is_less" (sp_less C_Ratio) 0 ["other"] [] [0, 1] := ⟨_, _, _, cl_Ratio, me_Ratio_is_less, fL, B_Ratio_is_less_0_other⟩
  have c_deck : Cl l.prog w K mg base 1 "_law_deck" _ _ _ sp_deck := ⟨ok_deck T F__law_deck, PySem.W.mg_of X G a__law_deck, F__law_deck.kp, b__law_deck⟩
  have c_draw : Cl l.prog w K mg base 1 "_law_draw" _ _ _ sp_draw := ⟨ok_draw T F__law_draw, PySem.W.mg_of X G a__law_draw, F__law_draw.kp, b__law_draw⟩
  have c_pick : Cl l.prog w K mg base 2 "_law_pick" _ _ _ sp_pick := ⟨ok_pick T c_draw F__law_pick, PySem.W.mg_of X G a__law_pick, F__law_pick.kp, b__law_pick⟩
  have c_whole : Cl l.prog w K mg base 3 "_law_whole" _ _ _ sp_whole := ⟨ok_whole T c_draw c_pick F__law_whole, PySem.W.mg_of X G a__law_whole, F__law_whole.kp, b__law_whole⟩
  have c_words : Cl l.prog w K mg base 4 "_law_words" _ _ _ sp_words := ⟨ok_words T c_whole c_pick F__law_words, PySem.W.mg_of X G a__law_words, F__law_words.kp, b__law_words⟩
  have c_near : Cl l.prog w K mg base 3 "_law_near" _ _ _ sp_near := ⟨ok_near T c_pick F__law_near, PySem.W.mg_of X G a__law_near, F__law_near.kp, b__law_near⟩
  have c_low : Cl l.prog w K mg base 2 "_law_lowest" _ _ _ sp_low := ⟨ok_lowest T c_ldiv F__law_lowest, PySem.W.mg_of X G a__law_lowest, F__law_lowest.kp, b__law_lowest⟩
  have c_is : Cl l.prog w K mg base 3 "_law_is" _ _ _ (sp_is C_Ratio) := ⟨ok_is T cl_Ratio na_Ratio_top na_Ratio_bottom ia ib c_low F__law_is, PySem.W.mg_of X G a__law_is, F__law_is.kp, b__law_is⟩
  have c_text : Cl l.prog w K mg base 3 "_law_text" _ _ _ sp_text := ⟨ok_text T c_low F__law_text, PySem.W.mg_of X G a__law_text, F__law_text.kp, b__law_text⟩
  have c_pair : Cl l.prog w K mg base 5 "_law_pair_right" _ _ _ sp_pair := ⟨pair_go T c_low c_is c_text k2 k0 m1 m0 sf_Ratio ea no d_add d_sub d_mul d_eq d_bool d_str F__law_pair_right, PySem.W.mg_of X G a__law_pair_right, F__law_pair_right.kp, b__law_pair_right⟩
  have c_alone : Cl l.prog w K mg base 4 "_law_alone" _ _ _ sp_alone := ⟨ok_alone T cl_Ratio na_Ratio_top na_Ratio_bottom k2 ea no d_eq d_str F__law_alone, PySem.W.mg_of X G a__law_alone, F__law_alone.kp, b__law_alone⟩
  have c_row : Cl l.prog w K mg base 4 "_law_row_right" _ _ _ sp_row := ⟨ok_row T k2 m1 ea d_eq F__law_row_right, PySem.W.mg_of X G a__law_row_right, F__law_row_right.kp, b__law_row_right⟩
  exact ok_law T c_deck c_draw c_words c_near c_pair c_alone c_row c_is k1 d_str F_law
end
theorem walk {l : PySem.W.OpenLaw} {q : Program} {loose : List Str} {XP : (Str → Option Value) → Heap → Prop} {YP : World → Heap → Prop} {d : DefRec} {K : Params → PySem.W.Frag} (hn : l.most = some 63) (hdf : d.params.defaults = [])
    (hY : ∀ (w : World) (h : Heap), YP w h → (K w.params).In h)
    (F : ∀ (w : World) (mg : Str → Option Value) (fa : Addr) (h : Heap), (K w.params).In h → h.Ns mainGlobals mg → mg d.name = some (.ref fa) →
      ∃ fd : FuncData, (∀ (s : Shared) (u : Value), BindsTo s fd ⟨[u], []⟩ [("_law_script", u)]) ∧ ∀ base : Heap, (K w.params).In base → base.Ns mainGlobals mg → FnG l.prog w (K w.params) mg base CX0 6 fa fd ["_law_script"] (up (K w.params) sp_law)) :
    PySem.W.WalkO q loose XP YP l.row.toRowW d [] (fun f vs => PySem.call f vs) :=
  walkG (n := 63) (k := 6) (x := "_law_script") (CX := fun _ => CX0) (sp := fun w => up (K w.params) sp_law) hn (by decide) hdf ⟨rfl, by decide, by decide⟩ hY F
    (fun w H a ns hl hS => up_law hS ⟨ns, rfl, hl, fun _ => rfl⟩) fun _ _ _ _ _ z => z
end K72
open PySem PySem.W PyProof.Rows
set_option maxRecDepth 100000 in
set_option maxHeartbeats 0 in
theorem PySem.Challenge.cw_ownwake_k72_exact_fractions_holds : PySem.Challenge.rw_ownwake_k72_exact_fractions.Holds := by
  w_on; o_law; k_head; (case hw => w_witness2)
  k_fill
  refine K72.walk (l := PySem.Challenge.rw_ownwake_k72_exact_fractions) rfl rfl (fun w h Y => PySem.W.kIn_of Y) ?F
  case F =>
    intro w mg fa h KX G hmg
    refine' K72.all_mk KX G hmg ?o_n ?o_t ?a_Ratio ?pg_Ratio ?hd_Ratio ?po_Ratio ?sa_Ratio ?mk_Ratio ?kc_Ratio ?oa_Ratio ?om_Ratio ?sf_Ratio ?ib_Ratio ?it_Ratio ?ne_Ratio ?na_Ratio_top ?na_Ratio_bottom ?a_divisor_of ?l_divisor_of ?d_divisor_of ?k_divisor_of ?a__law_deck ?l__law_deck ?d__law_deck ?k__law_deck ?a__law_draw ?l__law_draw ?d__law_draw ?k__law_draw ?a__law_pick ?l__law_pick ?d__law_pick ?k__law_pick ?a__law_whole ?l__law_whole ?d__law_whole ?k__law_whole ?a__law_words ?l__law_words ?d__law_words ?k__law_words ?a__law_near ?l__law_near ?d__law_near ?k__law_near ?a__law_divisor ?l__law_divisor ?d__law_divisor ?k__law_divisor ?a__law_lowest ?l__law_lowest ?d__law_lowest ?k__law_lowest ?a__law_is ?l__law_is ?d__law_is ?k__law_is ?a__law_text ?l__law_text ?d__law_text ?k__law_text ?a__law_pair_right ?l__law_pair_right ?d__law_pair_right ?k__law_pair_right ?a__law_alone ?l__law_alone ?d__law_alone ?k__law_alone ?a__law_row_right ?l__law_row_right ?d__law_row_right ?k__law_row_right ?a_law ?l_law ?d_law ?k_law ?m_Ratio___init__ ?l_Ratio___init__ ?d_Ratio___init__ ?k_Ratio___init__ ?n_Ratio___init__ ?t_Ratio___init__ ?m_Ratio___eq__ ?l_Ratio___eq__ ?d_Ratio___eq__ ?k_Ratio___eq__ ?n_Ratio___eq__ ?m_Ratio_is_less ?l_Ratio_is_less ?d_Ratio_is_less ?k_Ratio_is_less ?n_Ratio_is_less ?m_Ratio___add__ ?l_Ratio___add__ ?d_Ratio___add__ ?k_Ratio___add__ ?n_Ratio___add__ ?m_Ratio___sub__ ?l_Ratio___sub__ ?d_Ratio___sub__ ?k_Ratio___sub__ ?n_Ratio___sub__ ?m_Ratio___mul__ ?l_Ratio___mul__ ?d_Ratio___mul__ ?k_Ratio___mul__ ?n_Ratio___mul__ ?m_Ratio___bool__ ?l_Ratio___bool__ ?d_Ratio___bool__ ?k_Ratio___bool__ ?n_Ratio___bool__ ?m_Ratio___str__ ?l_Ratio___str__ ?d_Ratio___str__ ?k_Ratio___str__ ?n_Ratio___str__ ?z1 ?z2 ?z3 ?z4 ?z5 ?z6 ?z7 ?z8
    (case o_n => k_is)
    (case o_t => k_is)
    (case a_Ratio => k_is)
    (case pg_Ratio => k_is)
    (case hd_Ratio => k_is)
    (case po_Ratio => k_is)
    (case sa_Ratio => k_is)
    (case mk_Ratio => k_is)
    (case kc_Ratio => k_is)
    (case oa_Ratio => k_is)
    (case om_Ratio => k_is)
    (case sf_Ratio => k_is)
    (case ib_Ratio => k_is)
    (case it_Ratio => k_is)
    (case ne_Ratio => k_is)
    (case na_Ratio_top => k_is)
    (case na_Ratio_bottom => k_is)
    (case a_divisor_of => k_is)
    (case l_divisor_of => k_is)
    (case d_divisor_of => k_is)
    (case k_divisor_of => k_is)
    (case a__law_deck => k_is)
    (case l__law_deck => k_is)
    (case d__law_deck => k_is)
    (case k__law_deck => k_is)
    (case a__law_draw => k_is)
    (case l__law_draw => k_is)
    (case d__law_draw => k_is)
    (case k__law_draw => k_is)
    (case a__law_pick => k_is)
    (case l__law_pick => k_is)
    (case d__law_pick => k_is)
    (case k__law_pick => k_is)
    (case a__law_whole => k_is)
    (case l__law_whole => k_is)
    (case d__law_whole => k_is)
    (case k__law_whole => k_is)
    (case a__law_words => k_is)
    (case l__law_words => k_is)
    (case d__law_words => k_is)
    (case k__law_words => k_is)
    (case a__law_near => k_is)
    (case l__law_near => k_is)
    (case d__law_near => k_is)
    (case k__law_near => k_is)
    (case a__law_divisor => k_is)
    (case l__law_divisor => k_is)
    (case d__law_divisor => k_is)
    (case k__law_divisor => k_is)
    (case a__law_lowest => k_is)
    (case l__law_lowest => k_is)
    (case d__law_lowest => k_is)
    (case k__law_lowest => k_is)
    (case a__law_is => k_is)
    (case l__law_is => k_is)
    (case d__law_is => k_is)
    (case k__law_is => k_is)
    (case a__law_text => k_is)
    (case l__law_text => k_is)
    (case d__law_text => k_is)
    (case k__law_text => k_is)
    (case a__law_pair_right => k_is)
    (case l__law_pair_right => k_is)
    (case d__law_pair_right => k_is)
    (case k__law_pair_right => k_is)
    (case a__law_alone => k_is)
    (case l__law_alone => k_is)
    (case d__law_alone => k_is)
    (case k__law_alone => k_is)
    (case a__law_row_right => k_is)
    (case l__law_row_right => k_is)
    (case d__law_row_right => k_is)
    (case k__law_row_right => k_is)
    (case a_law => k_is)
    (case l_law => k_is)
    (case d_law => k_is)
    (case k_law => k_is)
    (case m_Ratio___init__ => k_is)
    (case l_Ratio___init__ => k_is)
    (case d_Ratio___init__ => k_is)
    (case k_Ratio___init__ => k_is)
    (case n_Ratio___init__ => k_is)
    (case t_Ratio___init__ => k_is)
    (case m_Ratio___eq__ => k_is)
    (case l_Ratio___eq__ => k_is)
    (case d_Ratio___eq__ => k_is)
    (case k_Ratio___eq__ => k_is)
    (case n_Ratio___eq__ => k_is)
    (case m_Ratio_is_less => k_is)
    (case l_Ratio_is_less => k_is)
    (case d_Ratio_is_less => k_is)
    (case k_Ratio_is_less => k_is)
    (case n_Ratio_is_less => k_is)
    (case m_Ratio___add__ => k_is)
    (case l_Ratio___add__ => k_is)
    (case d_Ratio___add__ => k_is)
    (case k_Ratio___add__ => k_is)
    (case n_Ratio___add__ => k_is)
    (case m_Ratio___sub__ => k_is)
    (case l_Ratio___sub__ => k_is)
    (case d_Ratio___sub__ => k_is)
    (case k_Ratio___sub__ => k_is)
    (case n_Ratio___sub__ => k_is)
    (case m_Ratio___mul__ => k_is)
    (case l_Ratio___mul__ => k_is)
    (case d_Ratio___mul__ => k_is)
    (case k_Ratio___mul__ => k_is)
    (case n_Ratio___mul__ => k_is)
    (case m_Ratio___bool__ => k_is)
    (case l_Ratio___bool__ => k_is)
    (case d_Ratio___bool__ => k_is)
    (case k_Ratio___bool__ => k_is)
    (case n_Ratio___bool__ => k_is)
    (case m_Ratio___str__ => k_is)
    (case l_Ratio___str__ => k_is)
    (case d_Ratio___str__ => k_is)
    (case k_Ratio___str__ => k_is)
    (case n_Ratio___str__ => k_is)
    (case z1 => k_is); (case z2 => k_is); (case z3 => k_is); (case z4 => k_is); (case z5 => k_is); (case z6 => k_is); (case z7 => k_is); (case z8 => k_is)
#print axioms PySem.Challenge.cw_ownwake_k72_exact_fractions_holds
