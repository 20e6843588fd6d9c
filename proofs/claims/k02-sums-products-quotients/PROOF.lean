import PyProof.Rows.All
import Wide.All
import OpenK.AllK
import Wide.FinOn
import HandS.ForMost
import HandS.ForExc
import HandS.Evl
import HandS.Wide
import HandS.Slots
import HandS.SlotsOwn
import HandS.Defaults
import HandS.IsInst
import HandS.Conv
import HandS.Flow
import KE.KSuper
import KE.KExcSuper
import HandS.Exc
import HandS.ExcInit
import HandS.ExcField
import HandS.ExcIs
import HandS.Lambda
import HandS.FStr
import HandS.WordsExc
import HandS.Style
import KE.RegKSuper
import PySem.Challenge.RW_whoseuse_k02_sums_products_and_quotients
set_option Elab.async false
set_option linter.all false
set_option maxRecDepth 100000
set_option maxHeartbeats 4000000
/-! Defs that lean on repr: what is known of the guards (no repr is under way) is handed from def to def. -/
namespace WU
open PySem PySem.Spec PyProof.Rows L2

/-- as FnOk, for callers around whom no repr is under way -/
structure FnG (P : Program) (w : World) (K : PySem.W.Frag) (mg : Str → Option Value) (base : Heap) (CX : CXT) (k : Nat) (f : Addr) (fd : FuncData) (ps : List Str) (sp : Sp) : Prop where
  len : ∀ vs H Q E, sp vs H Q E → vs.length = ps.length
  run : ∀ (A : Around) (outer : List Env) (s : Shared) (H : Hp) (args : Args) (us : List Value) (vs : List V) (Q : VK) (E : XK), Room k A → A.guards = some [] → Env0 P w K mg base A outer s H → BindsTo s fd args (ps.zip us) → Vals vs us → sp vs H Q E →
    codeAny (model P w) A (.call (.ref f) args) (CR CX outer P w H s Q E) s
section
variable {CX : CXT} {P : Program} {w : World} {K : PySem.W.Frag} {mg : Str → Option Value} {base : Heap} {k : Nat} {f : Addr} {fd : FuncData} {ps : List Str} {sp : Sp}
theorem FnG.of (F : FnOk P w K mg base CX k f fd ps sp) : FnG P w K mg base CX k f fd ps sp :=
  ⟨F.len, fun A outer s H args us vs Q E hr _ => F.run A outer s H args us vs Q E hr⟩
end
theorem deeper_guards {A : Around} {env : Env} : (A.deeper env).guards = A.guards := by
  first | rfl | simp [Around.deeper]
theorem fnG_of {CX : CXT} {P : Program} {w : World} {K : PySem.W.Frag} {mg : Str → Option Value} {base : Heap} {k : Nat} {f : Addr} {name qual : Str} {params : Arguments} {body : List Stmt} {scope : Scope} {dV kV doc pm cdv ct oc : Value} {an od : Option Addr}
    {osl : Array (Option Value)} {N ps : List Str} {sp : Sp} (lk : K.lookup f = some ⟨oc, od, .func (PySem.W.fnOf name qual params body scope dV kV doc pm an cdv ct), osl⟩) (hcd : PySem.W.codeIn K cdv qual = true) (S : FnScope N ps scope)
    (len : ∀ vs H Q E, sp vs H Q E → vs.length = ps.length)
    (hbody : ∀ (A : Around) (outer : List Env) (s : Shared) (H : Hp) (vs : List V) (Q : VK) (E : XK), Room k (A.deeper (envOfC qual scope s.heap.objs.size f cdv)) → (A.deeper (envOfC qual scope s.heap.objs.size f cdv)).guards = some [] → sp vs H Q E →
      ∃ t, PSs (cxOf CX P w K mg base N qual scope f cdv A outer s H E) body t ∧ t { nx := fun _ H' => Q .non H', rt := Q } (start N vs) H) :
    FnG P w K mg base CX (k + 1) f (PySem.W.fnOf name qual params body scope dV kV doc pm an cdv ct) ps sp := by
  refine ⟨len, fun A outer s H args us vs Q E hr hgd e0 hb r hsp => ?_⟩
  have hl := len _ _ _ _ hsp
  have KX : K.In s.heap := e0.mod.kin.keeps fun b o e => (e0.bs b o e).1
  have lim : s.heap.NoLimit := e0.mod.nolimit.keeps fun b o e => (e0.bs b o e).1
  have hkind : ∀ y ∈ ps.zip us, scope.names.lookup y.1 = some .local ∨ (scope.names.lookup y.1 = some .cell ∧ ((cellsFrom (s.heap.objs.size + 1) scope.names []).lookup y.1).isSome = true) := fun ⟨n, v⟩ hy => by
    rcases S.par n (List.of_mem_zip hy).1 with q | q
    · exact .inl q
    · exact .inr ⟨q, PySem.W.cellsFrom_some _ _ _ (.inl q)⟩
  refine codeAny_call_function hr.depth (KX _ _ lk) rfl S.co S.gen rfl (PySem.W.codeRec_of KX hcd) (hb _ _ _ _ ?_)
  refine wpAny_newFunctionEnv_cells S.kind hkind fun env he s1 x => ?_
  subst he
  refine ⟨lim.keeps x.toInCall.keep, codeAny_func ?_⟩
  obtain ⟨t, ht, hq⟩ := hbody A outer s H vs Q E (hr.deeper _) (deeper_guards.trans hgd) hsp
  have I : Inv (cxOf CX P w K mg base N qual scope f cdv A outer s H E) [] (start N vs) H s1 := inv_start S hr.hd e0 hl r x
  refine wpAny_mono (ht.run [] s1 (start N vs) H _ I hq) (fun fl s' hs => ?_) fun e s' hs => hs
  have fin : ∀ {σ' : L2.St} {H' : Hp} {v : V} {u : Value}, Inv (cxOf CX P w K mg base N qual scope f cdv A outer s H E) [] σ' H' s' → RelV v u → Q v H' → CE outer P w H s Q u s' :=
    fun {σ' H' v u} J rv q => ⟨v, H', J.os, J.bare, J.base, J.hok, rv, q⟩
  cases fl with
  | ret u =>
    obtain ⟨v, σ', H', J, rv, q⟩ := hs
    exact fin J rv q
  | next =>
    obtain ⟨σ', H', J, q⟩ := hs
    exact fin (v := V.non) (u := Value.none) J rfl q
  | brk =>
    obtain ⟨_, _, _, q⟩ := hs
    exact False.elim q
  | cont =>
    obtain ⟨_, _, _, q⟩ := hs
    exact False.elim q
section
variable {P : Program} {w : World} {K : PySem.W.Frag} {mg : Str → Option Value} {base : Heap}
theorem okG {x qual : Str} {st : Stmt} {f : Addr} {fd : FuncData} {N ps : List Str} {k : Nat} {sp : Sp} (F : L2.Fun K x qual st f fd) (S : FnScope N ps (defScope st)) (len : ∀ vs H Q E, sp vs H Q E → vs.length = ps.length)
    (hbody : ∀ (cdv : Value) (A : Around) (outer : List Env) (s : Shared) (H : Hp) (vs : List V) (Q : VK) (E : XK), Room k (A.deeper (envOfC qual (defScope st) s.heap.objs.size f cdv)) → (A.deeper (envOfC qual (defScope st) s.heap.objs.size f cdv)).guards = some [] → sp vs H Q E →
      ∃ t, PSs (cxOf CX0 P w K mg base N qual (defScope st) f cdv A outer s H E).nox (defBody st) t ∧ t { nx := fun _ H' => Q .non H', rt := Q } (start N vs) H) : FnG P w K mg base CX0 (k + 1) f fd ps sp := by
  obtain ⟨oc, od, kV, doc, pm, an, cdv, ct, osl, rfl, lk, hcd⟩ := F.ex
  refine fnG_of lk hcd S len fun A outer s H vs Q E hr hg hsp => ?_
  obtain ⟨t, h, q⟩ := hbody cdv A outer s H vs Q E hr hg hsp
  exact ⟨t, h.nox, q⟩
/-- .. a def that may raise -/
theorem okGX {x qual : Str} {st : Stmt} {f : Addr} {fd : FuncData} {N ps : List Str} {k : Nat} {sp : Sp} (F : L2.Fun K x qual st f fd) (S : FnScope N ps (defScope st)) (len : ∀ vs H Q E, sp vs H Q E → vs.length = ps.length)
    (hbody : ∀ (cdv : Value) (A : Around) (outer : List Env) (s : Shared) (H : Hp) (vs : List V) (Q : VK) (E : XK), Room k (A.deeper (envOfC qual (defScope st) s.heap.objs.size f cdv)) → (A.deeper (envOfC qual (defScope st) s.heap.objs.size f cdv)).guards = some [] → sp vs H Q E →
      ∃ t, PSs (cxOf (L2.CX P w) P w K mg base N qual (defScope st) f cdv A outer s H E) (defBody st) t ∧ t { nx := fun _ H' => Q .non H', rt := Q } (start N vs) H) : FnG P w K mg base (L2.CX P w) (k + 1) f fd ps sp := by
  obtain ⟨oc, od, kV, doc, pm, an, cdv, ct, osl, rfl, lk, hcd⟩ := F.ex
  exact fnG_of lk hcd S len fun A outer s H vs Q E hr hg hsp => hbody cdv A outer s H vs Q E hr hg hsp
end
section
variable {X : Cx} {CX : CXT} {k : Nat} {f C : Addr} {fd : FuncData} {ps : List Str} {sp : Sp} {dvs : List V} {ds : List Value} {E : XK} {x m : Str} {p pos apos : Pos} {e o : Expr} {es : List Expr} {ta : TE} {t : TA}
theorem run_fnG {pins : List (Addr × Obj)} {σ : L2.St} {H : Hp} {s : Shared} {Q : VK} {us : List Value} {vs : List V} (F : FnG X.prog X.w X.K X.mg X.base CX k f fd ps sp) (hr : Room k X.A) (hgd : X.A.guards = some []) (hb : Binds X.K fd ps ds) (hd : Vals dvs ds) (hx : Passes CX X E)
    (I : Inv X pins σ H s) (r : Vals vs us) (h : sp (vs ++ dvs) H Q E) : wpAny (model X.prog X.w) X.A (call (.ref f) us) (EP X pins σ Q) X.xe s := by
  have r2 : Vals (vs ++ dvs) (us ++ ds) := r.append hd
  have hl : (us ++ ds).length = ps.length := by rw [← r2.length]; exact F.len _ _ _ _ h
  refine wpAny_call (codeAny_mono (F.run X.A X.stack s H ⟨us, []⟩ (us ++ ds) (vs ++ dvs) Q E hr hgd I.env0 (hb s us I.kIn hl) r2 h) fun r s' hq => ?_)
  cases r with
  | error e => exact hx pins σ H s e s' I hq
  | ok fl =>
    cases fl with
    | ret u => exact I.after hq
    | next => exact False.elim hq
    | brk => exact False.elim hq
    | cont => exact False.elim hq
theorem pe_callG (F : FnG X.prog X.w X.K X.mg X.base CX k f fd ps sp) (hr : Room k X.A) (hgd : X.A.guards = some []) (hg : Gl X x) (hm : X.mg x = some (.ref f)) (hk : PySem.W.keepIn X.K (.ref f) = true) (hb : Binds X.K fd ps ds) (hd : Vals dvs ds) (hx : Passes CX X E)
    (ha : PA X (e :: es) t) (hdb : (x == ("__debug__" : Str)) = false := by decide) (he : starEach (e :: es) X.env = (false, eval e X.env) :: starEach es X.env := by rfl) (hpl : (backTo pos (starEach es X.env)).any (·.1) = false := by rfl) :
    PE X (.Call (.Name x p) (e :: es) [] pos) (tCall sp dvs E t) := by
  refine ⟨fun pins s σ H Q I h => ?_⟩
  refine wpAny_Call_Name_kw (ld_glob I hg hm ?_ hdb)
  refine PySem.W.callWith_K (h₀ := X.base) I.ok.mod.kin hk (thn (ha.run pos pins s σ H _ I h) fun us s1 ⟨vs, H1, I1, r, q⟩ => ⟨I1.kIn, ?_⟩) he hpl
  exact run_fnG F hr hgd hb hd hx I1 r q
end
/-! ### the end of a law row, for a law's def whose callers hold no guards -/
section
variable {P : Program} {w : World} {K : PySem.W.Frag} {mg mb : Str → Option Value} {CX : CXT} {k : Nat} {fa a : Addr} {fd : FuncData} {x : Str} {sp : Sp} {s1 : Shared} {vs : List Value} {ns : List Int}
/-- what is wanted of the law's call -/
abbrev LawEnd (s1 : Shared) (r : Result) (s' : Shared) : Prop := r = .ok (.ret (.bool true)) ∧ OldK s1.heap s'.heap ∧ s'.os = s1.os ∧ AllBare s'.gens
theorem law_core (KX : K.In s1.heap) (hns : s1.heap.Ns mainGlobals mg) (hb : s1.heap.Ns builtinsNs mb) (hbb : ∀ x : Str, x ≠ "__name__" → mb x = bootBuiltins x) (hlim : s1.heap.NoLimit) (hg : s1.gens = #[])
    (ha : s1.heap.get? a = some { cls := .type "list", data := .seq vs.toArray }) (hr : Room k callerA)
    (F : ∀ base : Heap, K.In base → base.Ns mainGlobals mg → FnG P w K mg base CX k fa fd [x] sp) (hbind : ∀ (s : Shared) (u : Value), BindsTo s fd ⟨[u], []⟩ [(x, u)])
    (hCX : ∀ H e s', CX [] H s1 (fun _ _ _ => False) e s' → False)
    (H : Hp) (hO : Only H) (hok : HOk P w H s1.heap) (hA : ∀ b, H b ≠ none → b = a) (hK : H a ≠ none → K.lookup a = none)
    (hsp : sp [.ref a] H (fun v _ => v = .bl true) fun _ _ _ => False) : codeAny (model P w) callerA (.call (.ref fa) ⟨[.ref a], []⟩) (LawEnd s1) s1 := by
  have free : ∀ {b : Addr} {o : Obj} {es : Array DictEntry} {ep : Nat}, s1.heap.get? b = some o → o.data = .dict es ep → H b = none := by
    intro b o es ep e d
    apply Classical.byContradiction
    intro q
    have e' := hA b q
    rw [e', ha] at e
    cases e
    cases d
  have nsK : ∀ {b : Addr} {m : Str → Option Value}, s1.heap.Ns b m → (hidT s1.heap H).Ns b m := by
    rintro b m ⟨o, es, ep, e, d, r⟩
    exact ⟨o, es, ep, hidT_get e (free e d), d, r⟩
  have hKb : K.In (hidT s1.heap H) := by
    intro b o e
    refine hidT_get (KX b o e) (Classical.byContradiction fun q => ?_)
    have e' := hA b q
    rw [e'] at q e
    rw [hK q] at e
    cases e
  obtain ⟨mc, h1, h2⟩ := hlim
  have e0 : Env0 P w K mg (hidT s1.heap H) callerA [] s1 H := {
    frames := rfl
    mod := ⟨hKb, nsK hns, ⟨mb, nsK hb, hbb⟩, ⟨mc, nsK h1, h2⟩⟩
    bs := fun b o e => of_hidT e
    bsz := Nat.le_of_eq (hidT_size _ _)
    funs := trivial
    frf := fun b hb => nomatch (show b ∈ ([] : List Addr) from hb)
    hok := hok
    bare := .of_eq hg }
  refine codeAny_mono ((F _ hKb (nsK hns)).run callerA [] s1 H ⟨[.ref a], []⟩ [.ref a] [.ref a] _ _ hr rfl e0 (hbind s1 (.ref a)) (.cons rfl .nil) hsp) fun r s' h => ?_
  match r, h with
  | .error e, h => exact (hCX H e s' h).elim
  | .ok .next, h => exact h.elim
  | .ok .brk, h => exact h.elim
  | .ok .cont, h => exact h.elim
  | .ok (.ret u), h =>
    obtain ⟨v, H', os, bare, un, hok', r', q⟩ := h
    cases (show v = .bl true from q)
    cases (show u = Value.bool true from r')
    refine ⟨rfl, OldK.of_keep fun b o e => ?_, os, bare⟩
    rcases hO b with z | ⟨ob, xs, z⟩
    · exact un.keep b o e z (fun z => nomatch (show b ∈ ([] : List Addr) from z)) (by simp)
    · have e1 := (hok b _ z).1
      have e2 := (hok' b _ (un.frzs b ob _ z)).1
      rw [e] at e1
      cases e1
      exact e2
theorem law_callG (KX : K.In s1.heap) (hns : s1.heap.Ns mainGlobals mg) (hb : s1.heap.Ns builtinsNs mb) (hbb : ∀ x : Str, x ≠ "__name__" → mb x = bootBuiltins x) (hlim : s1.heap.NoLimit) (hg : s1.gens = #[])
    (ha : s1.heap.get? a = some { cls := .type "list", data := .seq vs.toArray }) (hi : IntsAre vs ns) (hl : ns.length ≤ sizeLine) (hr : Room k callerA)
    (F : ∀ base : Heap, K.In base → base.Ns mainGlobals mg → FnG P w K mg base CX k fa fd [x] sp) (hbind : ∀ (s : Shared) (u : Value), BindsTo s fd ⟨[u], []⟩ [(x, u)])
    (hsp : ∀ H : Hp, Only H → SqL K H a (ns.map V.int) → sp [.ref a] H (fun v _ => v = .bl true) fun _ _ _ => False)
    (hCX : ∀ H e s', CX [] H s1 (fun _ _ _ => False) e s' → False) : codeAny (model P w) callerA (.call (.ref fa) ⟨[.ref a], []⟩) (LawEnd s1) s1 := by
  have rv := vals_ints hi
  have lv := hi.length
  have core := law_core KX hns hb hbb hlim hg ha hr F hbind hCX
  cases hk : K.lookup a with
  | some o =>
    have e := KX a o hk
    rw [ha] at e
    cases e
    refine core (fun _ => none) (fun _ => .inl rfl) (fun b u z => nomatch z) (fun b z => absurd rfl z) (fun z => absurd rfl z) (hsp _ (fun _ => .inl rfl) ?_)
    exact .inr ⟨_, vs.toArray, _, hk, rfl, rfl, rfl, by rw [List.size_toArray, lv]; exact hl, by simpa using rv⟩
  | none =>
    let ob : Obj := { cls := .type "list", data := .seq vs.toArray }
    let H : Hp := fun b => if b = a then some (.frz ob (.lst (ns.map V.int))) else none
    have hHa : H a = some (.frz ob (.lst (ns.map V.int))) := if_pos rfl
    have hHn : ∀ b, b ≠ a → H b = none := fun b q => if_neg q
    have hO : Only H := fun b => by
      by_cases q : b = a
      · rw [q]
        exact .inr ⟨_, _, hHa⟩
      · exact .inl (hHn b q)
    refine core H hO (fun b u z => ?_) (fun b z => Classical.byContradiction fun q => z (hHn b q)) (fun _ => hk) (hsp _ hO (.inl (.inr ⟨ob, hHa⟩)))
    by_cases q : b = a
    · subst q
      rw [hHa] at z
      cases z
      exact ⟨ha, by rw [List.length_map]; exact hl, vs, _, rv, ha⟩
    · rw [hHn b q] at z
      cases z
theorem walk_ofG {l : PySem.W.OpenLaw} {n : Nat} {q : Program} {loose : List Str} {XP : (Str → Option Value) → Heap → Prop} {YP : World → Heap → Prop} {d : DefRec} {K : Params → PySem.W.Frag} {CX : CXT} {sp : World → PySem.W.Frag → Sp}
    (hn : l.most = some n) (hn2 : n ≤ sizeLine) (hdf : d.params.defaults = []) (hr : Room k callerA) (hY : ∀ (w : World) (h : Heap), YP w h → (K w.params).In h)
    (F : ∀ (w : World) (mg : Str → Option Value) (fa : Addr) (h : Heap), (K w.params).In h → h.Ns mainGlobals mg → mg d.name = some (.ref fa) →
      ∃ fd : FuncData, (∀ (s : Shared) (u : Value), BindsTo s fd ⟨[u], []⟩ [(x, u)]) ∧ ∀ base : Heap, (K w.params).In base → base.Ns mainGlobals mg → FnG l.prog w (K w.params) mg base CX k fa fd [x] (sp w (K w.params)))
    (hsp : ∀ (w : World) (K : PySem.W.Frag) (H : Hp) (a : Addr) (ns : List Int), ns.length ≤ n → Only H → SqL K H a (ns.map V.int) → sp w K [.ref a] H (fun v _ => v = .bl true) fun _ _ _ => False)
    (hCX : ∀ (H : Hp) (s : Shared) (e : Value) (s' : Shared), CX [] H s (fun _ _ _ => False) e s' → False) :
    PySem.W.WalkO q loose XP YP l.row.toRowW d [] (fun f vs => PySem.call f vs) := by
  refine Att.attach_call hn hdf fun w s0 s1 mg mb fa o pm cd doc a vs ns G Y ho hd hcd hmg hobj hints hlen hg => ?_
  have KX := hY w _ Y
  obtain ⟨fd, hb, hF⟩ := F w mg fa _ KX G.T.g hmg
  exact law_callG KX G.T.g G.T.b G.T.builtins G.T.nolimit hg hobj hints (Nat.le_trans hlen hn2) hr hF hb (fun H hO hS => hsp w _ H a ns hlen hO hS) fun H e s' => hCX H s1 e s'
end
end WU

/-! repr of plain data: what a value and the heap stand for, as a PyData; its text. -/
namespace WU
open PySem PySem.Spec PyProof.Rows L2

mutual
inductive Rep (K : PySem.W.Frag) (H : Hp) : V → PyData → Prop
  | non : Rep K H .non .none
  | bl (b : Bool) : Rep K H (.bl b) (.bool b)
  | int (i : Int) : Rep K H (.int i) (.int i)
  | str (x : Str) : Rep K H (.str x) (.str x)
  | list {p : Addr} {xs : List V} {ds : List PyData} : SqL K H p xs → RepAll K H xs ds → Rep K H (.ref p) (.list ds)
  | tuple {p : Addr} {xs : List V} {ds : List PyData} : SqT K H p xs → RepAll K H xs ds → Rep K H (.ref p) (.tuple ds)
inductive RepAll (K : PySem.W.Frag) (H : Hp) : List V → List PyData → Prop
  | nil : RepAll K H [] []
  | cons {v : V} {d : PyData} {vs : List V} {ds : List PyData} : Rep K H v d → RepAll K H vs ds → RepAll K H (v :: vs) (d :: ds)
end
section
variable {X : Cx} {pins : List (Addr × Obj)} {σ : L2.St} {H : Hp} {s : Shared}
mutual
theorem Rep.reads (I : Inv X pins σ H s) : ∀ {v : V} {d : PyData} {u : Value}, Rep X.K H v d → RelV v u → ∃ as, Reads s.heap u d as
  | _, _, u, .non, r => by
    cases (show u = Value.none from r)
    exact ⟨_, .none⟩
  | _, _, u, .bl b, r => by
    cases (show u = Value.bool b from r)
    exact ⟨_, .bool b⟩
  | _, _, u, .int i, r => by
    obtain ⟨t, rfl⟩ := (show ∃ t, u = Value.int i t from r)
    exact ⟨_, .int i t⟩
  | _, _, u, .str x, r => by
    obtain ⟨t, rfl⟩ := (show ∃ t, u = Value.str x t from r)
    exact ⟨_, .str x t⟩
  | _, _, u, .list (p := p) h q, r => by
    cases (show u = Value.ref p from r)
    obtain ⟨its, rv, pl, _⟩ := I.list h
    obtain ⟨as, ra⟩ := RepAll.reads I q rv
    obtain ⟨o, n, ho, hc, hd, hs⟩ := pl
    exact ⟨_, .list ho hc hs ra⟩
  | _, _, u, .tuple (p := p) h q, r => by
    cases (show u = Value.ref p from r)
    obtain ⟨its, rv, pl, _⟩ := I.tuple h
    obtain ⟨as, ra⟩ := RepAll.reads I q rv
    obtain ⟨o, ho, hc, n, hs⟩ := pl
    exact ⟨_, .tuple ho hc hs ra⟩
theorem RepAll.reads (I : Inv X pins σ H s) : ∀ {vs : List V} {ds : List PyData} {us : List Value}, RepAll X.K H vs ds → Vals vs us → ∃ as, ReadsAll s.heap us ds as
  | _, _, _, .nil, .nil => ⟨_, .nil⟩
  | _, _, _, .cons a b, .cons r t => by
    obtain ⟨as, h1⟩ := Rep.reads I a r
    obtain ⟨bs, h2⟩ := RepAll.reads I b t
    exact ⟨_, .cons h1 h2⟩
end
end
mutual
theorem Rep.noDict {K : PySem.W.Frag} {H : Hp} : ∀ {v : V} {d : PyData}, Rep K H v d → d.hasDict = false
  | _, _, .non => by simp only [PyData.hasDict]
  | _, _, .bl _ => by simp only [PyData.hasDict]
  | _, _, .int _ => by simp only [PyData.hasDict]
  | _, _, .str _ => by simp only [PyData.hasDict]
  | _, _, .list _ q => by simp only [PyData.hasDict]; exact RepAll.noDict q
  | _, _, .tuple _ q => by simp only [PyData.hasDict]; exact RepAll.noDict q
theorem RepAll.noDict {K : PySem.W.Frag} {H : Hp} : ∀ {vs : List V} {ds : List PyData}, RepAll K H vs ds → PyData.hasDictAll ds = false
  | _, _, .nil => by simp only [PyData.hasDictAll]
  | _, _, .cons a b => by simp only [PyData.hasDictAll, Rep.noDict a, RepAll.noDict b, Bool.or_self]
end
mutual
theorem Rep.ext {K : PySem.W.Frag} {H H' : Hp} (e : Evl.Ex H H') : ∀ {v : V} {d : PyData}, Rep K H v d → Rep K H' v d
  | _, _, .non => .non
  | _, _, .bl b => .bl b
  | _, _, .int i => .int i
  | _, _, .str x => .str x
  | _, _, .list h q => .list (Evl.ex_l e h) (RepAll.ext e q)
  | _, _, .tuple h q => .tuple (Evl.ex_t e h) (RepAll.ext e q)
theorem RepAll.ext {K : PySem.W.Frag} {H H' : Hp} (e : Evl.Ex H H') : ∀ {vs : List V} {ds : List PyData}, RepAll K H vs ds → RepAll K H' vs ds
  | _, _, .nil => .nil
  | _, _, .cons a b => .cons (Rep.ext e a) (RepAll.ext e b)
end
/-- repr(x) of plain data -/
def rRepr (K : PySem.W.Frag) : List V → Hp → VK → Prop := fun xs H Q => ∃ v d, xs = [v] ∧ Rep K H v d ∧ d.showable = true ∧ d.depth ≤ 60 ∧ d.shown.length ≤ sizeLine ∧ Q (.str d.shown) H
theorem call_reprD {X : Cx} (hu : X.A.units + 64 < cLine) (hg : X.A.guards = some []) : CallR X (.builtin "repr") (rRepr X.K) := by
  intro pins s σ H xs us Q I r h
  obtain ⟨v, d, rfl, hd, hs, hdep, hz, q⟩ := h
  obtain ⟨u, rfl, ru⟩ := r.one
  obtain ⟨as, hr⟩ := hd.reads I ru
  have fin : ∀ (h' : Heap) (t : Tok) (tk : Nat), (∀ b o, s.heap.get? b = some o → h'.get? b = some o) → EP X pins σ Q (.str d.shown t) { s with heap := h', toks := tk } := fun h' t tk k => ⟨.str d.shown, H, I.kept k, ⟨t, rfl⟩, q⟩
  cases hd with
  | non =>
    cases (show u = Value.none from ru)
    exact P.repr_of_none (fin s.heap _ _ fun _ _ e => e)
  | bl b =>
    cases (show u = Value.bool b from ru)
    exact P.repr_of_bool (fin s.heap _ _ fun _ _ e => e)
  | int i =>
    obtain ⟨t, rfl⟩ := (show ∃ t, u = Value.int i t from ru)
    exact P.repr_of_int (of_decide_eq_true hs) (fin s.heap _ _ fun _ _ e => e)
  | str x =>
    obtain ⟨t, rfl⟩ := (show ∃ t, u = Value.str x t from ru)
    exact P.repr_of_str (fin s.heap _ _ fun _ _ e => e) hz
  | list h q' =>
    rename_i p xs ds
    cases (show u = Value.ref p from ru)
    exact repr_of_reads' hr hs (PyData.noDict_hsm (Rep.noDict (.list h q'))) hg (by omega) (fun _ _ e => e) (fun h' t tk k => fin h' t tk k) hz
  | tuple h q' =>
    rename_i p xs ds
    cases (show u = Value.ref p from ru)
    exact repr_of_reads' hr hs (PyData.noDict_hsm (Rep.noDict (.tuple h q'))) hg (by omega) (fun _ _ e => e) (fun h' t tk k => fin h' t tk k) hz
end WU

/-! Comparisons in which an instance of an own class stands on either side: its own def is asked, first or second; != by its own ==. -/
namespace WM
open PySem PySem.Spec PyProof.Rows PySem.W
section
variable {prog : Program} {w : World} {A : Around} {E : Value → Shared → Prop} {s : Shared} {K : Frag} {x C f : Addr} {ox : Obj} {od : Option Obj} {name : Str} {b tb : Value}
/-- a special name that is a built-in's slot -/
theorem ifBound_B {M : Model} {id : String} {args : List Value} {Q : Option Value → Shared → Prop} (X : K.In s.heap) (I : InstAt s.heap x ox C od) (hs : findIn K (.ref C) name = some (some (.builtin id)))
    (hb : bindSpecial (.builtin id) (.ref x) = pure (.builtin id, [.ref x]))
    (h : wpAny M A (call (.builtin id) (.ref x :: args)) (fun v => Q (some v)) E s) : wpAny M A (callSpecialIfBound? (.ref x) name args) Q E s := by
  simp only [callSpecialIfBound?, bindSpecialIfBound?]
  refine wpAny_holding (wpAny_bind (wpAny_bind (wpAny_bind (I.type.here ((looks_findIn X hs).here ?_)))))
  simp only [hb]
  refine wpAny_bind (wpAny_askSetting (wpAny_ite ?_))
  have fin : wpAny M A (call (.builtin id) ([.ref x] ++ args) >>= fun v => pure (some v)) Q E s := wpAny_bind (wpAny_mono h (fun v s' h' => wpAny_pure h') fun _ _ h' => h')
  split
  · exact wpAny_bind (wpAny_pure (wpAny_pure (by exact fin)))
  · exact wpAny_tryCatch (wpAny_bind (wpAny_pure (wpAny_pure (by exact fin))))
theorem check_slotK {M : Model} {id owner n : String} {rest : List Value} {Q : Unit → Shared → Prop} (hk : builtinKind id = some .slot) (hs : splitId id = some (owner, n))
    (ha : argsOk id ⟨.ref x :: rest, []⟩) (hm : mroIn K C (.type owner) = some true) (X : K.In s.heap) (I : InstAt s.heap x ox C od) (hq : Q () s) :
    wpAny M A (checkBuiltinCall id ⟨.ref x :: rest, []⟩) Q E s := by
  simp only [checkBuiltinCall, hk, hs]
  refine wpAny_bind ?_
  unfold isInstance
  refine wpAny_bind (I.type.here ((looks_mroIn X hm).here ?_))
  cases hsig : Manifest.signature? id with
  | none => exact wpAny_pure hq
  | some sig =>
    simp only [argsOk, hsig] at ha
    have h2 : Bind.checkArgs id sig ⟨.ref x :: rest, []⟩ = pure () := ha
    show wpAny M A (Bind.checkArgs id sig ⟨.ref x :: rest, []⟩) Q E _
    rw [h2]; exact wpAny_pure hq
theorem tryOwn {Q : Option Value → Shared → Prop} (X : K.In s.heap) (I : InstAt s.heap x ox C od) (hs : findIn K (.ref C) name = some (some (.ref f))) (hf : isFn K (.ref f) = true)
    (h : wpAny (model prog w) A (call (.ref f) [.ref x, b]) (PySem.W.CmpBack fun v => Q (some v)) E s) : wpAny (model prog w) A (tryCompare (.ref x) name b) Q E s := by
  unfold tryCompare
  refine wpAny_bind (ifBound_K X I hs hf (wpAny_mono h (fun v s' hv => ?_) fun _ _ e => e))
  cases v <;> first | exact hv.elim | exact wpAny_pure hv
theorem call_neOwn {Q : Value → Shared → Prop} (hu : A.units + 1 < cLine) (X : K.In s.heap) (I : InstAt s.heap x ox C od) (hs : findIn K (.ref C) "__eq__" = some (some (.ref f))) (hf : isFn K (.ref f) = true) (hm : mroIn K C (.type "object") = some true)
    (h : wpAny (model prog w) A.in1 (call (.ref f) [.ref x, b]) (fun v s' => ∃ k, v = .bool k ∧ Q (.bool (!k)) s') E s) : wpAny (model prog w) A (call (.builtin "object.__ne__") [.ref x, b]) Q E s := by
  refine wpAny_call (codeAny_call_builtin F.cmp_object.ne.plain F.cmpEntry_ne (check_slotK F.cmpKind_ne F.cmpSplit_ne (F.cmpArgs_ne _ _) hm X I ?_))
  unfold Builtin.«object.__ne__»
  have hu' : A.in1.units < cLine := hu
  repeat (first
    | with_reducible refine wpAny_cRoomFor hu' ?_
    | (refine wpAny_bind (m := callSpecialIfBound? (.ref x) (Str.ofString "__eq__") [b])
        (ifBound_K X I hs hf (wpAny_mono h (fun r s' hr => by
          obtain ⟨k, rfl, hq⟩ := hr
          repeat (first | exact hq | exact wpAny_pure hq | exact wpAny_truthy_bool hq | (refine wpAny_bind (m := truthy (.bool _)) (wpAny_truthy_bool ?_)) | wp_step)) fun _ _ e => e)))
    | wp_step)
theorem tryNe {Q : Option Value → Shared → Prop} (hu : A.units + 1 < cLine) (X : K.In s.heap) (I : InstAt s.heap x ox C od) (hn : findIn K (.ref C) "__ne__" = some (some (.builtin "object.__ne__"))) (hs : findIn K (.ref C) "__eq__" = some (some (.ref f))) (hf : isFn K (.ref f) = true) (hm : mroIn K C (.type "object") = some true)
    (h : wpAny (model prog w) A.in1 (call (.ref f) [.ref x, b]) (fun v s' => ∃ k, v = .bool k ∧ Q (some (.bool (!k))) s') E s) : wpAny (model prog w) A (tryCompare (.ref x) "__ne__" b) Q E s := by
  unfold tryCompare
  refine wpAny_bind (ifBound_B X I hn (F.cmp_object.ne.bind _) (call_neOwn hu X I hs hf hm (wpAny_mono h (fun v s' hv => ?_) fun _ _ e => e)))
  obtain ⟨k, e, q⟩ := hv
  exact ⟨k, e, wpAny_pure q⟩
/-- the left one answers -/
theorem rc_first {a : Value} {ta : Value} {op : CmpOp} {Q : Value → Shared → Prop} (hu : A.units < cLine) (h1 : oneThing? op a b = none) (ha : Looks (model prog w) s.heap (typeOf a) ta) (hb : Looks (model prog w) s.heap (typeOf b) tb)
    (hn : ta = tb ∨ Looks (model prog w) s.heap (isSubtype tb ta) false) (h : wpAny (model prog w) A (tryCompare a (cmpInfo op).2.1 b) (fun r s' => ∃ v, r = some v ∧ Q v s') E s) : wpAny (model prog w) A (richCompare op a b) Q E s := by
  rcases hi : cmpInfo op with ⟨sym, f1, r1⟩
  rw [hi] at h
  unfold richCompare
  simp only [h1, hi]
  refine wpAny_holding (wpAny_bind (wpAny_cRoomFor hu ?_))
  refine wpAny_bind (ha.here (wpAny_bind (hb.here ?_)))
  have fin : ∀ {k : Option Value → Sem Value}, (∀ v s', Q v s' → wpAny (model prog w) A (k (some v)) Q E s') → wpAny (model prog w) A (tryCompare a f1 b >>= k) Q E s := fun hk => wpAny_bind (wpAny_mono h (fun r s' z => by obtain ⟨v, rfl, q⟩ := z; exact hk v s' q) fun _ _ e => e)
  split
  · rename_i q
    rcases hn with e | e
    · rw [e] at q; simp at q
    · refine wpAny_bind (e.here ?_)
      simp only [Bool.false_eq_true, if_false]
      exact fin fun v s' q => wpAny_pure q
  · refine wpAny_bind (wpAny_pure ?_)
    simp only [Bool.false_eq_true, if_false]
    exact fin fun v s' q => wpAny_pure q
/-- the left one declines, the right one answers -/
theorem rc_second {a : Value} {ta : Value} {op : CmpOp} {Q : Value → Shared → Prop} (hu : A.units < cLine) (h1 : oneThing? op a b = none) (ha : Looks (model prog w) s.heap (typeOf a) ta) (hb : Looks (model prog w) s.heap (typeOf b) tb)
    (hn : ta = tb ∨ Looks (model prog w) s.heap (isSubtype tb ta) false) (h : wpAny (model prog w) A (tryCompare a (cmpInfo op).2.1 b) (fun r s' => r = none ∧ wpAny (model prog w) A (tryCompare b (cmpInfo op).2.2 a) (fun r s' => ∃ v, r = some v ∧ Q v s') E s') E s) : wpAny (model prog w) A (richCompare op a b) Q E s := by
  rcases hi : cmpInfo op with ⟨sym, f1, r1⟩
  rw [hi] at h
  unfold richCompare
  simp only [h1, hi]
  refine wpAny_holding (wpAny_bind (wpAny_cRoomFor hu ?_))
  refine wpAny_bind (ha.here (wpAny_bind (hb.here ?_)))
  split
  · rename_i q
    rcases hn with e | e
    · rw [e] at q; simp at q
    · refine wpAny_bind (e.here ?_)
      simp only [Bool.false_eq_true, if_false, Bool.not_false, if_true]
      refine wpAny_bind (wpAny_mono h (fun r s' z => ?_) fun _ _ e => e)
      obtain ⟨rfl, q⟩ := z
      refine wpAny_bind (wpAny_mono q (fun r s' z => ?_) fun _ _ e => e)
      obtain ⟨v, rfl, q⟩ := z
      exact wpAny_pure q
  · refine wpAny_bind (wpAny_pure ?_)
    simp only [Bool.false_eq_true, if_false, Bool.not_false, if_true]
    refine wpAny_bind (wpAny_mono h (fun r s' z => ?_) fun _ _ e => e)
    obtain ⟨rfl, q⟩ := z
    refine wpAny_bind (wpAny_mono q (fun r s' z => ?_) fun _ _ e => e)
    obtain ⟨v, rfl, q⟩ := z
    exact wpAny_pure q
end
end WM

/-! printed by gen_dc.py: int, bool, None, text, list, tuple, dict decline a comparison with an instance of an own class. -/
namespace WM
open PySem PySem.Spec PyProof.Rows PySem.W
open AutoSeq1 (wpAny_loadPart')
open MeetsSeq MeetsSeq2 MeetsSeq3 SeqRoads2
theorem dec_int_eq (b : Int) (u : Tok) (l C dx : Addr) (sl : Array (Option Value)) :
    Meets (Builtin.«int.__eq__» ⟨[.int b u, .ref l], []⟩) (fun _ R s => s.heap.get? l = some { instObj C dx with slots := sl } ∧ R (.ok (.ret .notImplemented)) s) :=
  .of_wp fun prog w A R s h => by obtain ⟨hp, g, d, tk, os⟩ := s; obtain ⟨hl, h⟩ := h; wp_walk using wpAny_loadPart' hl, wpAny_load hl; exact ⟨_, rfl, h⟩
theorem dec_int_ne (b : Int) (u : Tok) (l C dx : Addr) (sl : Array (Option Value)) :
    Meets (Builtin.«int.__ne__» ⟨[.int b u, .ref l], []⟩) (fun _ R s => s.heap.get? l = some { instObj C dx with slots := sl } ∧ R (.ok (.ret .notImplemented)) s) :=
  .of_wp fun prog w A R s h => by obtain ⟨hp, g, d, tk, os⟩ := s; obtain ⟨hl, h⟩ := h; wp_walk using wpAny_loadPart' hl, wpAny_load hl; exact ⟨_, rfl, h⟩
theorem dec_int_lt (b : Int) (u : Tok) (l C dx : Addr) (sl : Array (Option Value)) :
    Meets (Builtin.«int.__lt__» ⟨[.int b u, .ref l], []⟩) (fun _ R s => s.heap.get? l = some { instObj C dx with slots := sl } ∧ R (.ok (.ret .notImplemented)) s) :=
  .of_wp fun prog w A R s h => by obtain ⟨hp, g, d, tk, os⟩ := s; obtain ⟨hl, h⟩ := h; wp_walk using wpAny_loadPart' hl, wpAny_load hl; exact ⟨_, rfl, h⟩
theorem dec_int_le (b : Int) (u : Tok) (l C dx : Addr) (sl : Array (Option Value)) :
    Meets (Builtin.«int.__le__» ⟨[.int b u, .ref l], []⟩) (fun _ R s => s.heap.get? l = some { instObj C dx with slots := sl } ∧ R (.ok (.ret .notImplemented)) s) :=
  .of_wp fun prog w A R s h => by obtain ⟨hp, g, d, tk, os⟩ := s; obtain ⟨hl, h⟩ := h; wp_walk using wpAny_loadPart' hl, wpAny_load hl; exact ⟨_, rfl, h⟩
theorem dec_int_gt (b : Int) (u : Tok) (l C dx : Addr) (sl : Array (Option Value)) :
    Meets (Builtin.«int.__gt__» ⟨[.int b u, .ref l], []⟩) (fun _ R s => s.heap.get? l = some { instObj C dx with slots := sl } ∧ R (.ok (.ret .notImplemented)) s) :=
  .of_wp fun prog w A R s h => by obtain ⟨hp, g, d, tk, os⟩ := s; obtain ⟨hl, h⟩ := h; wp_walk using wpAny_loadPart' hl, wpAny_load hl; exact ⟨_, rfl, h⟩
theorem dec_int_ge (b : Int) (u : Tok) (l C dx : Addr) (sl : Array (Option Value)) :
    Meets (Builtin.«int.__ge__» ⟨[.int b u, .ref l], []⟩) (fun _ R s => s.heap.get? l = some { instObj C dx with slots := sl } ∧ R (.ok (.ret .notImplemented)) s) :=
  .of_wp fun prog w A R s h => by obtain ⟨hp, g, d, tk, os⟩ := s; obtain ⟨hl, h⟩ := h; wp_walk using wpAny_loadPart' hl, wpAny_load hl; exact ⟨_, rfl, h⟩
theorem dec_bool_eq (b : Bool) (l C dx : Addr) (sl : Array (Option Value)) :
    Meets (Builtin.«int.__eq__» ⟨[.bool b, .ref l], []⟩) (fun _ R s => s.heap.get? l = some { instObj C dx with slots := sl } ∧ R (.ok (.ret .notImplemented)) s) :=
  .of_wp fun prog w A R s h => by obtain ⟨hp, g, d, tk, os⟩ := s; obtain ⟨hl, h⟩ := h; wp_walk using wpAny_loadPart' hl, wpAny_load hl; exact ⟨_, rfl, h⟩
theorem dec_str_eq (b : Str) (u : Tok) (l C dx : Addr) (sl : Array (Option Value)) :
    Meets (Builtin.«str.__eq__» ⟨[.str b u, .ref l], []⟩) (fun _ R s => s.heap.get? l = some { instObj C dx with slots := sl } ∧ R (.ok (.ret .notImplemented)) s) :=
  .of_wp fun prog w A R s h => by obtain ⟨hp, g, d, tk, os⟩ := s; obtain ⟨hl, h⟩ := h; wp_walk using wpAny_loadPart' hl, wpAny_load hl; exact ⟨_, rfl, h⟩
theorem dec_none_eq (l : Addr) : Meets (Builtin.«NoneType.__eq__» ⟨[.none, .ref l], []⟩) (fun _ R s => R (.ok (.ret .notImplemented)) s) :=
  .of_wp fun prog w A R s h => by obtain ⟨hp, g, d, tk, os⟩ := s; wp_walk; exact ⟨_, rfl, h⟩
theorem dec_list_eq (q : Addr) (items : Array Value) (n : Nat) (dd : Option Addr) (sl2 : Array (Option Value)) (l C dx : Addr) (sl : Array (Option Value)) (K : Frag) (hm : mroIn K C (.type "list") = some false) :
    Meets (Builtin.«list.__eq__» ⟨[.ref q, .ref l], []⟩) (fun _ R s => K.In s.heap ∧ s.heap.get? q = some { cls := .type "list", dict := dd, data := .seq items n, slots := sl2 } ∧ s.heap.get? l = some { instObj C dx with slots := sl } ∧ R (.ok (.ret .notImplemented)) s) :=
  .of_wp fun prog w A R s h => by obtain ⟨hp, g, d, tk, os⟩ := s; obtain ⟨X, hq, hl, h⟩ := h; wp_walk using wpAny_loadPart' hq, wpAny_load hq, wpAny_loadPart' hl, wpAny_load hl, (looks_mroIn X hm).here; exact ⟨_, rfl, h⟩
theorem dec_tuple_eq (q : Addr) (items : Array Value) (n : Nat) (dd : Option Addr) (sl2 : Array (Option Value)) (l C dx : Addr) (sl : Array (Option Value)) (K : Frag) (hm : mroIn K C (.type "tuple") = some false) :
    Meets (Builtin.«tuple.__eq__» ⟨[.ref q, .ref l], []⟩) (fun _ R s => K.In s.heap ∧ s.heap.get? q = some { cls := .type "tuple", dict := dd, data := .seq items n, slots := sl2 } ∧ s.heap.get? l = some { instObj C dx with slots := sl } ∧ R (.ok (.ret .notImplemented)) s) :=
  .of_wp fun prog w A R s h => by obtain ⟨hp, g, d, tk, os⟩ := s; obtain ⟨X, hq, hl, h⟩ := h; wp_walk using wpAny_loadPart' hq, wpAny_load hq, wpAny_loadPart' hl, wpAny_load hl, (looks_mroIn X hm).here; exact ⟨_, rfl, h⟩
theorem dec_dict_eq (q : Addr) (es : Array DictEntry) (n : Nat) (dd : Option Addr) (sl2 : Array (Option Value)) (l C dx : Addr) (sl : Array (Option Value)) (K : Frag) (hm : mroIn K C (.type "dict") = some false) :
    Meets (Builtin.«dict.__eq__» ⟨[.ref q, .ref l], []⟩) (fun _ R s => K.In s.heap ∧ s.heap.get? q = some { cls := .type "dict", dict := dd, data := .dict es n, slots := sl2 } ∧ s.heap.get? l = some { instObj C dx with slots := sl } ∧ R (.ok (.ret .notImplemented)) s) :=
  .of_wp fun prog w A R s h => by obtain ⟨hp, g, d, tk, os⟩ := s; obtain ⟨X, hq, hl, h⟩ := h; wp_walk using wpAny_loadPart' hq, wpAny_load hq, wpAny_loadPart' hl, wpAny_load hl, (looks_mroIn X hm).here; exact ⟨_, rfl, h⟩
theorem dec_bool_ne (b : Bool) (l C dx : Addr) (sl : Array (Option Value)) :
    Meets (Builtin.«int.__ne__» ⟨[.bool b, .ref l], []⟩) (fun _ R s => s.heap.get? l = some { instObj C dx with slots := sl } ∧ R (.ok (.ret .notImplemented)) s) :=
  .of_wp fun prog w A R s h => by obtain ⟨hp, g, d, tk, os⟩ := s; obtain ⟨hl, h⟩ := h; wp_walk using wpAny_loadPart' hl, wpAny_load hl; exact ⟨_, rfl, h⟩
theorem dec_str_ne (b : Str) (u : Tok) (l C dx : Addr) (sl : Array (Option Value)) :
    Meets (Builtin.«str.__ne__» ⟨[.str b u, .ref l], []⟩) (fun _ R s => s.heap.get? l = some { instObj C dx with slots := sl } ∧ R (.ok (.ret .notImplemented)) s) :=
  .of_wp fun prog w A R s h => by obtain ⟨hp, g, d, tk, os⟩ := s; obtain ⟨hl, h⟩ := h; wp_walk using wpAny_loadPart' hl, wpAny_load hl; exact ⟨_, rfl, h⟩
theorem dec_none_ne (l : Addr) : Meets (Builtin.«NoneType.__ne__» ⟨[.none, .ref l], []⟩) (fun _ R s => R (.ok (.ret .notImplemented)) s) :=
  .of_wp fun prog w A R s h => by obtain ⟨hp, g, d, tk, os⟩ := s; wp_walk; exact ⟨_, rfl, h⟩
theorem dec_list_ne (q : Addr) (items : Array Value) (n : Nat) (dd : Option Addr) (sl2 : Array (Option Value)) (l C dx : Addr) (sl : Array (Option Value)) (K : Frag) (hm : mroIn K C (.type "list") = some false) :
    Meets (Builtin.«list.__ne__» ⟨[.ref q, .ref l], []⟩) (fun _ R s => K.In s.heap ∧ s.heap.get? q = some { cls := .type "list", dict := dd, data := .seq items n, slots := sl2 } ∧ s.heap.get? l = some { instObj C dx with slots := sl } ∧ R (.ok (.ret .notImplemented)) s) :=
  .of_wp fun prog w A R s h => by obtain ⟨hp, g, d, tk, os⟩ := s; obtain ⟨X, hq, hl, h⟩ := h; wp_walk using wpAny_loadPart' hq, wpAny_load hq, wpAny_loadPart' hl, wpAny_load hl, (looks_mroIn X hm).here; exact ⟨_, rfl, h⟩
theorem dec_tuple_ne (q : Addr) (items : Array Value) (n : Nat) (dd : Option Addr) (sl2 : Array (Option Value)) (l C dx : Addr) (sl : Array (Option Value)) (K : Frag) (hm : mroIn K C (.type "tuple") = some false) :
    Meets (Builtin.«tuple.__ne__» ⟨[.ref q, .ref l], []⟩) (fun _ R s => K.In s.heap ∧ s.heap.get? q = some { cls := .type "tuple", dict := dd, data := .seq items n, slots := sl2 } ∧ s.heap.get? l = some { instObj C dx with slots := sl } ∧ R (.ok (.ret .notImplemented)) s) :=
  .of_wp fun prog w A R s h => by obtain ⟨hp, g, d, tk, os⟩ := s; obtain ⟨X, hq, hl, h⟩ := h; wp_walk using wpAny_loadPart' hq, wpAny_load hq, wpAny_loadPart' hl, wpAny_load hl, (looks_mroIn X hm).here; exact ⟨_, rfl, h⟩
theorem dec_dict_ne (q : Addr) (es : Array DictEntry) (n : Nat) (dd : Option Addr) (sl2 : Array (Option Value)) (l C dx : Addr) (sl : Array (Option Value)) (K : Frag) (hm : mroIn K C (.type "dict") = some false) :
    Meets (Builtin.«dict.__ne__» ⟨[.ref q, .ref l], []⟩) (fun _ R s => K.In s.heap ∧ s.heap.get? q = some { cls := .type "dict", dict := dd, data := .dict es n, slots := sl2 } ∧ s.heap.get? l = some { instObj C dx with slots := sl } ∧ R (.ok (.ret .notImplemented)) s) :=
  .of_wp fun prog w A R s h => by obtain ⟨hp, g, d, tk, os⟩ := s; obtain ⟨X, hq, hl, h⟩ := h; wp_walk using wpAny_loadPart' hq, wpAny_load hq, wpAny_loadPart' hl, wpAny_load hl, (looks_mroIn X hm).here; exact ⟨_, rfl, h⟩
end WM

/-! printed by gen_op.py: the layer's rules: isinstance of any value; comparisons with an instance of an own slotted class on either side. -/
namespace WU
open PySem PySem.Spec PyProof.Rows L2 SlX
/-- a value's type: a built-in one's or that of an instance with slots -/
inductive TyW (K : PySem.W.Frag) (H : Hp) : V → Value → Prop where
  | x {v : V} {t : Value} (h : TyX K H v t) : TyW K H v t
  | sl {a C dx : Addr} {vs : List (Option V)} (h : Slt H a C dx vs) (c : SCls K C) (i : SIsi K C) : TyW K H (.ref a) (.ref C)
theorem TyW.b {K : PySem.W.Frag} {H : Hp} {v : V} {t : Value} (h : TyOf K H v t) : TyW K H v t := .x (.base h)
section
variable {X : Cx} {pins : List (Addr × Obj)} {σ : L2.St} {H : Hp} {s : Shared}
theorem kit_ofW {x : V} {u t : Value} (I : Inv X pins σ H s) (rx : RelV x u) (ty : TyW X.K H x t) : ∃ P : Heap → Prop, PySem.W.KitX X.K u t P ∧ P s.heap ∧ u ≠ .builtin "__main__.__loader__#opaque" := by
  cases ty with
  | x h => exact kit_of I rx h
  | sl h c i =>
    rename_i a C dx vs
    cases (show u = Value.ref a from rx)
    obtain ⟨sl, od, _, J, _⟩ := slt_inst I h
    exact ⟨_, OwX.kitx_slt c.ic (c.get _) i.ca i.cn i.ct i.cm, J, fun z => nomatch z⟩
end
/-- isinstance(x, c), x any value -/
def rIsW (K : PySem.W.Frag) : List V → Hp → VK → Prop := fun xs H Q => ∃ (x c : V) (t u : Value) (b : Bool), xs = [x, c] ∧ ClsV c u ∧ TyW K H x t ∧ PySem.W.kitOne K t u = some b ∧ Q (.bl b) H
section
variable {X : Cx}
theorem call_isW : CallR X (.builtin "isinstance") (rIsW X.K) := by
  intro pins s σ H xs us Q I r h
  obtain ⟨x, c, t, u, b, rfl, k, ty, e, q⟩ := h
  obtain ⟨u1, u2, rfl, r1, r2⟩ := vals2 r
  have e2 := k.eq r2
  subst e2
  obtain ⟨P, Z, p, hx⟩ := kit_ofW I r1 ty
  exact PySem.W.kia_one Z I.kIn p e hx fun tk => ⟨.bl b, H, I.tok tk, rfl, q⟩
end
/-- what a comparison asks of an own class with slots -/
structure OwnC (K : PySem.W.Frag) (C : Addr) : Prop where
  cl : SCls K C
  is : SIsi K C
  ne : PySem.W.findIn K (.ref C) "__ne__" = some (some (.builtin "object.__ne__"))
  m_int : PySem.W.mroIn K C (.type "int") = some false
  m_bool : PySem.W.mroIn K C (.type "bool") = some false
  m_none : PySem.W.mroIn K C (.type "NoneType") = some false
  m_str : PySem.W.mroIn K C (.type "str") = some false
  m_list : PySem.W.mroIn K C (.type "list") = some false
  m_tuple : PySem.W.mroIn K C (.type "tuple") = some false
  m_dict : PySem.W.mroIn K C (.type "dict") = some false
/-- x op y by x's own def at g: x an instance of C, y of a type t that is not below C -/
def rFst (K : PySem.W.Frag) (C : Addr) (sp : Sp) (E : XK) : R2 := fun x y H Q => ∃ a dx vs t, x = .ref a ∧ Slt H a C dx vs ∧ TyW K H y t ∧ PySem.W.notFirst K C t = true ∧ sp [x, y] H Q E
/-- x != y by x's own == -/
def rFstN (K : PySem.W.Frag) (C : Addr) (sp : Sp) (E : XK) : R2 := fun x y H Q => ∃ a dx vs t, x = .ref a ∧ Slt H a C dx vs ∧ TyW K H y t ∧ PySem.W.notFirst K C t = true ∧ sp [x, y] H (fun z H' => ∃ k, z = .bl k ∧ Q (.bl (!k)) H') E
/-- the kinds that decline == and != -/
inductive Left (H : Hp) : V → Prop where
  | non : Left H .non
  | bl (b : Bool) : Left H (.bl b)
  | int (i : Int) : Left H (.int i)
  | str (z : Str) : Left H (.str z)
  | lst {p : Addr} {xs : List V} (h : H p = some (.lst xs)) : Left H (.ref p)
  | tup {p : Addr} {xs : List V} (h : H p = some (.tup xs)) : Left H (.ref p)
  | dK {p : Addr} {kvs : List (Key × V)} (h : H p = some (.dK kvs)) : Left H (.ref p)
/-- x op y by y's own def: x declines -/
def rSnd (C : Addr) (sp : Sp) (E : XK) : R2 := fun x y H Q => ∃ b dx vs, y = .ref b ∧ Slt H b C dx vs ∧ Left H x ∧ sp [y, x] H Q E
def rSndI (C : Addr) (sp : Sp) (E : XK) : R2 := fun x y H Q => ∃ b dx vs i, y = .ref b ∧ Slt H b C dx vs ∧ x = .int i ∧ sp [y, x] H Q E
def rSndN (C : Addr) (sp : Sp) (E : XK) : R2 := fun x y H Q => ∃ b dx vs, y = .ref b ∧ Slt H b C dx vs ∧ Left H x ∧ sp [y, x] H (fun z H' => ∃ k, z = .bl k ∧ Q (.bl (!k)) H') E
section
variable {X : Cx} {CX : CXT} {pins : List (Addr × Obj)} {σ : L2.St} {H : Hp} {s : Shared} {a C dx g : Addr} {vs : List (Option V)} {n : Nat} {sp : Sp} {E : XK}
theorem first_looks {K : PySem.W.Frag} {M : Model} {h : Heap} {t : Value} (x : K.In h) (hn : PySem.W.notFirst K C t = true) : Value.ref C = t ∨ PySem.W.Looks M h (isSubtype t (.ref C)) false := by
  rcases Bool.or_eq_true_iff.mp hn with e | e
  · exact .inl (beq_iff_eq.mp e).symm
  · exact .inr (PySem.W.looks_subIn x (beq_iff_eq.mp e))
theorem op_fst {op : CmpOp} (hop : ∀ a b, compareOp op a b = richCompare op a b) (hs : PySem.W.findIn X.K (.ref C) (cmpInfo op).2.1 = some (some (.ref g))) (hf : PySem.W.isFn X.K (.ref g) = true) (F : FnR X.prog X.w X.K X.mg X.base CX n g sp)
    (hr : Room n X.A) (hx : Passes CX X E) : OpR X (compareOp op) (rFst X.K C sp E) := by
  intro pins s σ H x y v u Q I rx ry h
  obtain ⟨a, dx, vs, t, rfl, ha, ty, hn, q⟩ := h
  cases (show v = Value.ref a from rx)
  obtain ⟨sl, od, _, J, _⟩ := slt_inst I ha
  obtain ⟨P, Z, p, _⟩ := kit_ofW I ry ty
  rw [hop]
  refine WM.rc_first hr.units0 (PySem.oneThing_ref ..) J.type (Z.ty _ _ I.kIn p) (first_looks I.kIn hn) (WM.tryOwn I.kIn J hs hf ?_)
  refine wpAny_mono (wpAny_call (run_fnR (us := [.ref a, u]) (vs := [.ref a, y]) F hr hx I (.cons rfl (.cons ry .nil)) q)) (fun w s' z => ?_) fun _ _ x => x
  obtain ⟨z', H', I', rz, qz⟩ := z
  exact cmpback rz ⟨w, rfl, z', H', I', rz, qz⟩
theorem op_fstN (c : OwnC X.K C) (hs : PySem.W.findIn X.K (.ref C) "__eq__" = some (some (.ref g))) (hf : PySem.W.isFn X.K (.ref g) = true) (F : FnR X.prog X.w X.K X.mg X.base CX n g sp)
    (hr : Room (n + 1) X.A) (hx : Passes CX X E) : OpR X (compareOp .NotEq) (rFstN X.K C sp E) := by
  intro pins s σ H x y v u Q I rx ry h
  obtain ⟨a, dx, vs, t, rfl, ha, ty, hn, q⟩ := h
  cases (show v = Value.ref a from rx)
  obtain ⟨sl, od, _, J, _⟩ := slt_inst I ha
  obtain ⟨P, Z, p, _⟩ := kit_ofW I ry ty
  show wpAny _ _ (richCompare .NotEq _ _) _ _ _
  refine WM.rc_first hr.units0 (PySem.oneThing_ref ..) J.type (Z.ty _ _ I.kIn p) (first_looks I.kIn hn) (WM.tryNe (by have := hr.units; omega) I.kIn J c.ne hs hf c.is.cm ?_)
  refine wpAny_mono (wpAny_call (run_at (us := [.ref a, u]) (ws := [.ref a, y]) F hr.in1 I.env0.in1 hx I (.cons rfl (.cons ry .nil)) q)) (fun w s' z => ?_) fun _ _ x => x
  obtain ⟨z', H', I', rz, k, rfl, qz⟩ := z
  cases (show w = Value.bool k from rz)
  exact ⟨k, rfl, _, rfl, .bl (!k), H', I', rfl, qz⟩
theorem TypeIs_looks {M : Model} {u : Value} {T : String} (h : s.TypeIs u T) : PySem.W.Looks M s.heap (typeOf u) (.type T) := by
  cases u with
  | ref p =>
    obtain ⟨o, ho, hc⟩ := h
    exact hc ▸ (PySem.W.Looks.ld ho).andThen .now
  | _ => exact PySem.W.Looks.of_pure (by first | exact h | (cases h; rfl) | simpa [Shared.TypeIs] using h)
theorem decl_eq {x : V} {u : Value} {Q : Option Value → Shared → Prop} {A : Around} {E : Value → Shared → Prop} (I : Inv X pins σ H s) (c : OwnC X.K C) (h : Slt H a C dx vs) (l : Left H x) (rx : RelV x u) (q : Q none s) :
    ∃ T, s.TypeIs u T ∧ PySem.W.mroIn X.K C (.type T) = some false ∧ wpAny (model X.prog X.w) A (tryCompare u (cmpInfo .Eq).2.1 (.ref a)) Q E s := by
  obtain ⟨ne, sl, mA, e0, _, _, _⟩ := slt_at I h
  cases l with
  | non =>
    cases (show u = Value.none from rx)
    exact ⟨"NoneType", rfl, c.m_none, wpAny_tryCompare_declines rfl F.slot_NoneType_eq (call_meets F.slot_NoneType_eq rfl F.entry_NoneType_eq (F.args_NoneType_eq_2 _ _) (WM.dec_none_eq a) ⟨rfl, q⟩)⟩
  | bl b =>
    cases (show u = Value.bool b from rx)
    exact ⟨"bool", rfl, c.m_bool, wpAny_tryCompare_declines rfl F.slot_bool_eq (call_meets F.slot_bool_eq rfl F.entry_int_eq (F.args_int_eq_2 _ _) (WM.dec_bool_eq b a C dx sl) ⟨e0, rfl, q⟩)⟩
  | int i =>
    obtain ⟨t, rfl⟩ := (show ∃ t, u = Value.int i t from rx)
    exact ⟨"int", typeIs_int s i t, c.m_int, wpAny_tryCompare_declines (typeIs_int s i t) F.slot_int_eq (call_meets F.slot_int_eq (typeIs_int s i t) F.entry_int_eq (F.args_int_eq_2 _ _) (WM.dec_int_eq i t a C dx sl) ⟨e0, rfl, q⟩)⟩
  | str z =>
    obtain ⟨t, rfl⟩ := (show ∃ t, u = Value.str z t from rx)
    exact ⟨"str", typeIs_str s z t, c.m_str, wpAny_tryCompare_declines (typeIs_str s z t) F.slot_str_eq (call_meets F.slot_str_eq (typeIs_str s z t) F.entry_str_eq (F.args_str_eq_2 _ _) (WM.dec_str_eq z t a C dx sl) ⟨e0, rfl, q⟩)⟩
  | lst hp =>
    rename_i p xs
    cases (show u = Value.ref p from rx)
    obtain ⟨_, its, n, _, ho⟩ := (show ObjOk X.prog X.w H s.heap p (.lst xs) from I.hok p _ hp)
    exact ⟨"list", ⟨_, ho, rfl⟩, c.m_list, wpAny_tryCompare_declines ⟨_, ho, rfl⟩ F.slot_list_eq (call_meets F.slot_list_eq ⟨_, ho, rfl⟩ F.entry_list_eq (F.args_list_eq_2 _ _) (WM.dec_list_eq p its.toArray n none #[] a C dx sl X.K c.m_list) ⟨I.kIn, ho, e0, rfl, q⟩)⟩
  | tup hp =>
    rename_i p xs
    cases (show u = Value.ref p from rx)
    obtain ⟨_, its, _, ⟨oc, odd, odt, osl⟩, ho, hc, n, hd⟩ := (show ObjOk X.prog X.w H s.heap p (.tup xs) from I.hok p _ hp)
    simp only at hc hd
    subst hc hd
    exact ⟨"tuple", ⟨_, ho, rfl⟩, c.m_tuple, wpAny_tryCompare_declines ⟨_, ho, rfl⟩ F.slot_tuple_eq (call_meets F.slot_tuple_eq ⟨_, ho, rfl⟩ F.entry_tuple_eq (F.args_tuple_eq_2 _ _) (WM.dec_tuple_eq p its.toArray n odd osl a C dx sl X.K c.m_tuple) ⟨I.kIn, ho, e0, rfl, q⟩)⟩
  | dK hp =>
    rename_i p kvs
    cases (show u = Value.ref p from rx)
    obtain ⟨_, _, _, _, ⟨oc, odd, odt, osl⟩, es, ep, ho, hc, hd, _⟩ := (show ObjOk X.prog X.w H s.heap p (.dK kvs) from I.hok p _ hp)
    obtain ⟨hc, _⟩ := hc
    simp only at hc hd
    subst hc hd
    exact ⟨"dict", ⟨_, ho, rfl⟩, c.m_dict, wpAny_tryCompare_declines ⟨_, ho, rfl⟩ F.slot_dict_eq (call_meets F.slot_dict_eq ⟨_, ho, rfl⟩ F.entry_dict_eq (F.args_dict_eq_2 _ _) (WM.dec_dict_eq p es ep odd osl a C dx sl X.K c.m_dict) ⟨I.kIn, ho, e0, rfl, q⟩)⟩
theorem decl_ne {x : V} {u : Value} {Q : Option Value → Shared → Prop} {A : Around} {E : Value → Shared → Prop} (I : Inv X pins σ H s) (c : OwnC X.K C) (h : Slt H a C dx vs) (l : Left H x) (rx : RelV x u) (q : Q none s) :
    ∃ T, s.TypeIs u T ∧ PySem.W.mroIn X.K C (.type T) = some false ∧ wpAny (model X.prog X.w) A (tryCompare u (cmpInfo .NotEq).2.1 (.ref a)) Q E s := by
  obtain ⟨ne, sl, mA, e0, _, _, _⟩ := slt_at I h
  cases l with
  | non =>
    cases (show u = Value.none from rx)
    exact ⟨"NoneType", rfl, c.m_none, wpAny_tryCompare_declines rfl F.slot_NoneType_ne (call_meets F.slot_NoneType_ne rfl F.entry_NoneType_ne (F.args_NoneType_ne_2 _ _) (WM.dec_none_ne a) ⟨rfl, q⟩)⟩
  | bl b =>
    cases (show u = Value.bool b from rx)
    exact ⟨"bool", rfl, c.m_bool, wpAny_tryCompare_declines rfl F.slot_bool_ne (call_meets F.slot_bool_ne rfl F.entry_int_ne (F.args_int_ne_2 _ _) (WM.dec_bool_ne b a C dx sl) ⟨e0, rfl, q⟩)⟩
  | int i =>
    obtain ⟨t, rfl⟩ := (show ∃ t, u = Value.int i t from rx)
    exact ⟨"int", typeIs_int s i t, c.m_int, wpAny_tryCompare_declines (typeIs_int s i t) F.slot_int_ne (call_meets F.slot_int_ne (typeIs_int s i t) F.entry_int_ne (F.args_int_ne_2 _ _) (WM.dec_int_ne i t a C dx sl) ⟨e0, rfl, q⟩)⟩
  | str z =>
    obtain ⟨t, rfl⟩ := (show ∃ t, u = Value.str z t from rx)
    exact ⟨"str", typeIs_str s z t, c.m_str, wpAny_tryCompare_declines (typeIs_str s z t) F.slot_str_ne (call_meets F.slot_str_ne (typeIs_str s z t) F.entry_str_ne (F.args_str_ne_2 _ _) (WM.dec_str_ne z t a C dx sl) ⟨e0, rfl, q⟩)⟩
  | lst hp =>
    rename_i p xs
    cases (show u = Value.ref p from rx)
    obtain ⟨_, its, n, _, ho⟩ := (show ObjOk X.prog X.w H s.heap p (.lst xs) from I.hok p _ hp)
    exact ⟨"list", ⟨_, ho, rfl⟩, c.m_list, wpAny_tryCompare_declines ⟨_, ho, rfl⟩ F.slot_list_ne (call_meets F.slot_list_ne ⟨_, ho, rfl⟩ F.entry_list_ne (F.args_list_ne_2 _ _) (WM.dec_list_ne p its.toArray n none #[] a C dx sl X.K c.m_list) ⟨I.kIn, ho, e0, rfl, q⟩)⟩
  | tup hp =>
    rename_i p xs
    cases (show u = Value.ref p from rx)
    obtain ⟨_, its, _, ⟨oc, odd, odt, osl⟩, ho, hc, n, hd⟩ := (show ObjOk X.prog X.w H s.heap p (.tup xs) from I.hok p _ hp)
    simp only at hc hd
    subst hc hd
    exact ⟨"tuple", ⟨_, ho, rfl⟩, c.m_tuple, wpAny_tryCompare_declines ⟨_, ho, rfl⟩ F.slot_tuple_ne (call_meets F.slot_tuple_ne ⟨_, ho, rfl⟩ F.entry_tuple_ne (F.args_tuple_ne_2 _ _) (WM.dec_tuple_ne p its.toArray n odd osl a C dx sl X.K c.m_tuple) ⟨I.kIn, ho, e0, rfl, q⟩)⟩
  | dK hp =>
    rename_i p kvs
    cases (show u = Value.ref p from rx)
    obtain ⟨_, _, _, _, ⟨oc, odd, odt, osl⟩, es, ep, ho, hc, hd, _⟩ := (show ObjOk X.prog X.w H s.heap p (.dK kvs) from I.hok p _ hp)
    obtain ⟨hc, _⟩ := hc
    simp only at hc hd
    subst hc hd
    exact ⟨"dict", ⟨_, ho, rfl⟩, c.m_dict, wpAny_tryCompare_declines ⟨_, ho, rfl⟩ F.slot_dict_ne (call_meets F.slot_dict_ne ⟨_, ho, rfl⟩ F.entry_dict_ne (F.args_dict_ne_2 _ _) (WM.dec_dict_ne p es ep odd osl a C dx sl X.K c.m_dict) ⟨I.kIn, ho, e0, rfl, q⟩)⟩
theorem op_sndE (c : OwnC X.K C) (hs : PySem.W.findIn X.K (.ref C) "__eq__" = some (some (.ref g))) (hf : PySem.W.isFn X.K (.ref g) = true) (F : FnR X.prog X.w X.K X.mg X.base CX n g sp)
    (hr : Room n X.A) (hx : Passes CX X E) : OpR X (compareOp .Eq) (rSnd C sp E) := by
  intro pins s σ H x y v u Q I rx ry h
  obtain ⟨b, dx, vs, rfl, hb, l, q⟩ := h
  cases (show u = Value.ref b from ry)
  obtain ⟨sl, od, _, J, _⟩ := slt_inst I hb
  have go : wpAny (model X.prog X.w) X.A (tryCompare (.ref b) (cmpInfo .Eq).2.2 v) (fun r s' => ∃ z, r = some z ∧ EP X pins σ Q z s') X.xe s := by
    refine WM.tryOwn I.kIn J hs hf ?_
    refine wpAny_mono (wpAny_call (run_fnR (us := [.ref b, v]) (vs := [.ref b, x]) F hr hx I (.cons rfl (.cons rx .nil)) q)) (fun w s' z => ?_) fun _ _ x => x
    obtain ⟨z', H', I', rz, qz⟩ := z
    exact cmpback rz ⟨w, rfl, z', H', I', rz, qz⟩
  obtain ⟨T, hT, hm, ht⟩ := decl_eq (A := X.A) (E := X.xe) (Q := fun r s' => r = none ∧ wpAny (model X.prog X.w) X.A (tryCompare (.ref b) (cmpInfo .Eq).2.2 v) (fun r s' => ∃ z, r = some z ∧ EP X pins σ Q z s') X.xe s') I c hb l rx ⟨rfl, go⟩
  show wpAny _ _ (richCompare .Eq _ _) _ _ _
  exact WM.rc_second hr.units0 (hT.oneThing_none _ _) (TypeIs_looks hT) J.type (.inr (PySem.W.looks_mroIn I.kIn hm)) ht
theorem op_sndN (c : OwnC X.K C) (hs : PySem.W.findIn X.K (.ref C) "__eq__" = some (some (.ref g))) (hf : PySem.W.isFn X.K (.ref g) = true) (F : FnR X.prog X.w X.K X.mg X.base CX n g sp)
    (hr : Room (n + 1) X.A) (hx : Passes CX X E) : OpR X (compareOp .NotEq) (rSndN C sp E) := by
  intro pins s σ H x y v u Q I rx ry h
  obtain ⟨b, dx, vs, rfl, hb, l, q⟩ := h
  cases (show u = Value.ref b from ry)
  obtain ⟨sl, od, _, J, _⟩ := slt_inst I hb
  have go : wpAny (model X.prog X.w) X.A (tryCompare (.ref b) (cmpInfo .NotEq).2.2 v) (fun r s' => ∃ z, r = some z ∧ EP X pins σ Q z s') X.xe s := by
    refine WM.tryNe (by have := hr.units; omega) I.kIn J c.ne hs hf c.is.cm ?_
    refine wpAny_mono (wpAny_call (run_at (us := [.ref b, v]) (ws := [.ref b, x]) F hr.in1 I.env0.in1 hx I (.cons rfl (.cons rx .nil)) q)) (fun w s' z => ?_) fun _ _ x => x
    obtain ⟨z', H', I', rz, k, rfl, qz⟩ := z
    cases (show w = Value.bool k from rz)
    exact ⟨k, rfl, _, rfl, .bl (!k), H', I', rfl, qz⟩
  obtain ⟨T, hT, hm, ht⟩ := decl_ne (A := X.A) (E := X.xe) (Q := fun r s' => r = none ∧ wpAny (model X.prog X.w) X.A (tryCompare (.ref b) (cmpInfo .NotEq).2.2 v) (fun r s' => ∃ z, r = some z ∧ EP X pins σ Q z s') X.xe s') I c hb l rx ⟨rfl, go⟩
  show wpAny _ _ (richCompare .NotEq _ _) _ _ _
  exact WM.rc_second hr.units0 (hT.oneThing_none _ _) (TypeIs_looks hT) J.type (.inr (PySem.W.looks_mroIn I.kIn hm)) ht
theorem op_snd_lt (c : OwnC X.K C) (hs : PySem.W.findIn X.K (.ref C) "__gt__" = some (some (.ref g))) (hf : PySem.W.isFn X.K (.ref g) = true) (F : FnR X.prog X.w X.K X.mg X.base CX n g sp)
    (hr : Room n X.A) (hx : Passes CX X E) : OpR X (compareOp .Lt) (rSndI C sp E) := by
  intro pins s σ H x y v u Q I rx ry h
  obtain ⟨b, dx, vs, i, rfl, hb, rfl, q⟩ := h
  cases (show u = Value.ref b from ry)
  obtain ⟨t, rfl⟩ := (show ∃ t, v = Value.int i t from rx)
  obtain ⟨sl, od, _, J, _⟩ := slt_inst I hb
  obtain ⟨ne, sl2, mA, e0, _, _, _⟩ := slt_at I hb
  have go : wpAny (model X.prog X.w) X.A (tryCompare (.ref b) (cmpInfo .Lt).2.2 (.int i t)) (fun r s' => ∃ z, r = some z ∧ EP X pins σ Q z s') X.xe s := by
    refine WM.tryOwn I.kIn J hs hf ?_
    refine wpAny_mono (wpAny_call (run_fnR (us := [.ref b, .int i t]) (vs := [.ref b, .int i]) F hr hx I (.cons rfl (.cons ⟨t, rfl⟩ .nil)) q)) (fun w s' z => ?_) fun _ _ x => x
    obtain ⟨z', H', I', rz, qz⟩ := z
    exact cmpback rz ⟨w, rfl, z', H', I', rz, qz⟩
  show wpAny _ _ (richCompare .Lt _ _) _ _ _
  refine WM.rc_second hr.units0 ((typeIs_int s i t).oneThing_none _ _) (TypeIs_looks (typeIs_int s i t)) J.type (.inr (PySem.W.looks_mroIn I.kIn c.m_int)) (wpAny_tryCompare_declines (typeIs_int s i t) PySem.F.slot_int_lt ?_)
  exact call_meets PySem.F.slot_int_lt (typeIs_int s i t) PySem.F.entry_int_lt (PySem.F.args_int_lt_2 _ _) (WM.dec_int_lt i t b C dx sl2) ⟨e0, rfl, rfl, go⟩
theorem op_snd_le (c : OwnC X.K C) (hs : PySem.W.findIn X.K (.ref C) "__ge__" = some (some (.ref g))) (hf : PySem.W.isFn X.K (.ref g) = true) (F : FnR X.prog X.w X.K X.mg X.base CX n g sp)
    (hr : Room n X.A) (hx : Passes CX X E) : OpR X (compareOp .LtE) (rSndI C sp E) := by
  intro pins s σ H x y v u Q I rx ry h
  obtain ⟨b, dx, vs, i, rfl, hb, rfl, q⟩ := h
  cases (show u = Value.ref b from ry)
  obtain ⟨t, rfl⟩ := (show ∃ t, v = Value.int i t from rx)
  obtain ⟨sl, od, _, J, _⟩ := slt_inst I hb
  obtain ⟨ne, sl2, mA, e0, _, _, _⟩ := slt_at I hb
  have go : wpAny (model X.prog X.w) X.A (tryCompare (.ref b) (cmpInfo .LtE).2.2 (.int i t)) (fun r s' => ∃ z, r = some z ∧ EP X pins σ Q z s') X.xe s := by
    refine WM.tryOwn I.kIn J hs hf ?_
    refine wpAny_mono (wpAny_call (run_fnR (us := [.ref b, .int i t]) (vs := [.ref b, .int i]) F hr hx I (.cons rfl (.cons ⟨t, rfl⟩ .nil)) q)) (fun w s' z => ?_) fun _ _ x => x
    obtain ⟨z', H', I', rz, qz⟩ := z
    exact cmpback rz ⟨w, rfl, z', H', I', rz, qz⟩
  show wpAny _ _ (richCompare .LtE _ _) _ _ _
  refine WM.rc_second hr.units0 ((typeIs_int s i t).oneThing_none _ _) (TypeIs_looks (typeIs_int s i t)) J.type (.inr (PySem.W.looks_mroIn I.kIn c.m_int)) (wpAny_tryCompare_declines (typeIs_int s i t) PySem.F.slot_int_le ?_)
  exact call_meets PySem.F.slot_int_le (typeIs_int s i t) PySem.F.entry_int_le (PySem.F.args_int_le_2 _ _) (WM.dec_int_le i t b C dx sl2) ⟨e0, rfl, rfl, go⟩
theorem op_snd_gt (c : OwnC X.K C) (hs : PySem.W.findIn X.K (.ref C) "__lt__" = some (some (.ref g))) (hf : PySem.W.isFn X.K (.ref g) = true) (F : FnR X.prog X.w X.K X.mg X.base CX n g sp)
    (hr : Room n X.A) (hx : Passes CX X E) : OpR X (compareOp .Gt) (rSndI C sp E) := by
  intro pins s σ H x y v u Q I rx ry h
  obtain ⟨b, dx, vs, i, rfl, hb, rfl, q⟩ := h
  cases (show u = Value.ref b from ry)
  obtain ⟨t, rfl⟩ := (show ∃ t, v = Value.int i t from rx)
  obtain ⟨sl, od, _, J, _⟩ := slt_inst I hb
  obtain ⟨ne, sl2, mA, e0, _, _, _⟩ := slt_at I hb
  have go : wpAny (model X.prog X.w) X.A (tryCompare (.ref b) (cmpInfo .Gt).2.2 (.int i t)) (fun r s' => ∃ z, r = some z ∧ EP X pins σ Q z s') X.xe s := by
    refine WM.tryOwn I.kIn J hs hf ?_
    refine wpAny_mono (wpAny_call (run_fnR (us := [.ref b, .int i t]) (vs := [.ref b, .int i]) F hr hx I (.cons rfl (.cons ⟨t, rfl⟩ .nil)) q)) (fun w s' z => ?_) fun _ _ x => x
    obtain ⟨z', H', I', rz, qz⟩ := z
    exact cmpback rz ⟨w, rfl, z', H', I', rz, qz⟩
  show wpAny _ _ (richCompare .Gt _ _) _ _ _
  refine WM.rc_second hr.units0 ((typeIs_int s i t).oneThing_none _ _) (TypeIs_looks (typeIs_int s i t)) J.type (.inr (PySem.W.looks_mroIn I.kIn c.m_int)) (wpAny_tryCompare_declines (typeIs_int s i t) PySem.F.slot_int_gt ?_)
  exact call_meets PySem.F.slot_int_gt (typeIs_int s i t) PySem.F.entry_int_gt (PySem.F.args_int_gt_2 _ _) (WM.dec_int_gt i t b C dx sl2) ⟨e0, rfl, rfl, go⟩
theorem op_snd_ge (c : OwnC X.K C) (hs : PySem.W.findIn X.K (.ref C) "__le__" = some (some (.ref g))) (hf : PySem.W.isFn X.K (.ref g) = true) (F : FnR X.prog X.w X.K X.mg X.base CX n g sp)
    (hr : Room n X.A) (hx : Passes CX X E) : OpR X (compareOp .GtE) (rSndI C sp E) := by
  intro pins s σ H x y v u Q I rx ry h
  obtain ⟨b, dx, vs, i, rfl, hb, rfl, q⟩ := h
  cases (show u = Value.ref b from ry)
  obtain ⟨t, rfl⟩ := (show ∃ t, v = Value.int i t from rx)
  obtain ⟨sl, od, _, J, _⟩ := slt_inst I hb
  obtain ⟨ne, sl2, mA, e0, _, _, _⟩ := slt_at I hb
  have go : wpAny (model X.prog X.w) X.A (tryCompare (.ref b) (cmpInfo .GtE).2.2 (.int i t)) (fun r s' => ∃ z, r = some z ∧ EP X pins σ Q z s') X.xe s := by
    refine WM.tryOwn I.kIn J hs hf ?_
    refine wpAny_mono (wpAny_call (run_fnR (us := [.ref b, .int i t]) (vs := [.ref b, .int i]) F hr hx I (.cons rfl (.cons ⟨t, rfl⟩ .nil)) q)) (fun w s' z => ?_) fun _ _ x => x
    obtain ⟨z', H', I', rz, qz⟩ := z
    exact cmpback rz ⟨w, rfl, z', H', I', rz, qz⟩
  show wpAny _ _ (richCompare .GtE _ _) _ _ _
  refine WM.rc_second hr.units0 ((typeIs_int s i t).oneThing_none _ _) (TypeIs_looks (typeIs_int s i t)) J.type (.inr (PySem.W.looks_mroIn I.kIn c.m_int)) (wpAny_tryCompare_declines (typeIs_int s i t) PySem.F.slot_int_ge ?_)
  exact call_meets PySem.F.slot_int_ge (typeIs_int s i t) PySem.F.entry_int_ge (PySem.F.args_int_ge_2 _ _) (WM.dec_int_ge i t b C dx sl2) ⟨e0, rfl, rfl, go⟩
end
end WU

/-! Defs and classes of the text in one word each; what a call of them asks. -/
namespace WU
open PySem PySem.Spec PyProof.Rows L2 SlX
/-- a def that may be called by its name -/
structure Cal (P : Program) (w : World) (K : PySem.W.Frag) (mg : Str → Option Value) (base : Heap) (k : Nat) (x : Str) (sp : Sp) (dvs : List V) : Prop where
  ex : ∃ (f : Addr) (fd : FuncData) (ps : List Str) (ds : List Value), FnOk P w K mg base CX0 k f fd ps sp ∧ mg x = some (.ref f) ∧ PySem.W.keepIn K (.ref f) = true ∧ Binds K fd ps ds ∧ Vals dvs ds
/-- .. one that leans on repr -/
structure CalG (P : Program) (w : World) (K : PySem.W.Frag) (mg : Str → Option Value) (base : Heap) (k : Nat) (x : Str) (sp : Sp) (dvs : List V) : Prop where
  ex : ∃ (f : Addr) (fd : FuncData) (ps : List Str) (ds : List Value), FnG P w K mg base CX0 k f fd ps sp ∧ mg x = some (.ref f) ∧ PySem.W.keepIn K (.ref f) = true ∧ Binds K fd ps ds ∧ Vals dvs ds
/-- a class that may be made by its name; sp: its __init__ -/
structure Mak (P : Program) (w : World) (K : PySem.W.Frag) (mg : Str → Option Value) (base : Heap) (k : Nat) (x : Str) (C : Addr) (sp : Sp) (dvs : List V) : Prop where
  ex : ∃ (f : Addr) (fd : FuncData) (ps : List Str) (ds : List Value), Mk K C f ∧ FnOk P w K mg base CX0 k f fd ps sp ∧ mg x = some (.ref C) ∧ Binds K fd ps ds ∧ Vals dvs ds
section
variable {X : Cx} {k j : Nat} {C : Addr} {x m : Str} {sp : Sp} {dvs : List V} {p pos apos : Pos} {e o : Expr} {es : List Expr} {ta : TE} {t : TA}
theorem pe_cal (c : Cal X.prog X.w X.K X.mg X.base k x sp dvs) (hr : Room j X.A) (hk : k ≤ j) (hg : Gl X x) (ha : PA X (e :: es) t)
    (hdb : (x == ("__debug__" : Str)) = false := by decide) (he : starEach (e :: es) X.env = (false, eval e X.env) :: starEach es X.env := by rfl) (hpl : (backTo pos (starEach es X.env)).any (·.1) = false := by rfl) :
    PE X (.Call (.Name x p) (e :: es) [] pos) (tCall sp dvs E0 t) := by
  obtain ⟨f, fd, ps, ds, F, hm, kp, b, d⟩ := c.ex
  exact pe_call F (hr.mono hk) hg hm kp b d pass0 ha hdb he hpl
theorem pe_calG (c : CalG X.prog X.w X.K X.mg X.base k x sp dvs) (hr : Room j X.A) (hgd : X.A.guards = some []) (hk : k ≤ j) (hg : Gl X x) (ha : PA X (e :: es) t)
    (hdb : (x == ("__debug__" : Str)) = false := by decide) (he : starEach (e :: es) X.env = (false, eval e X.env) :: starEach es X.env := by rfl) (hpl : (backTo pos (starEach es X.env)).any (·.1) = false := by rfl) :
    PE X (.Call (.Name x p) (e :: es) [] pos) (tCall sp dvs E0 t) := by
  obtain ⟨f, fd, ps, ds, F, hm, kp, b, d⟩ := c.ex
  exact pe_callG F (hr.mono hk) hgd hg hm kp b d pass0 ha hdb he hpl
theorem pe_mak (c : Mak X.prog X.w X.K X.mg X.base k x C sp dvs) (hr : Room j X.A) (hk : k + 1 ≤ j) (hg : Gl X x) (ha : PA X (e :: es) t)
    (hdb : (x == ("__debug__" : Str)) = false := by decide) (he : starEach (e :: es) X.env = (false, eval e X.env) :: starEach es X.env := by rfl) (hpl : (backTo pos (starEach es X.env)).any (·.1) = false := by rfl) :
    PE X (.Call (.Name x p) (e :: es) [] pos) (tMake C sp dvs E0 t) := by
  obtain ⟨f, fd, ps, ds, M, F, hm, b, d⟩ := c.ex
  exact pe_make M F (hr.mono hk) hg hm b d pass0 ha hdb he hpl
end
/-- a slot as a target of an assignment -/
def gSl (K : PySem.W.Frag) (to : TE) (f : Str) : TG := fun v σ H Q => to σ H fun x H1 => ∃ a C dx p vs i, x = .ref a ∧ Slt H1 a C dx vs ∧ SCls K C ∧ Slot1 K C f p i ∧ Q σ (slH H1 a C dx (putS i v vs))
theorem pg_sl {X : Cx} {o : Expr} {f : Str} {pos : Pos} {to : TE} (ho : PE X o to)
    (ha : ∀ v, assign (.Attribute o f pos) X.env v = (do
      let ov ← holding [v] (eval o X.env)
      standAt pos.atName
      holding [v, ov] (setAttr ov f v)
      release [v, ov] []) := by intro _; rfl) : PG X (.Attribute o f pos) (gSl X.K to f) := by
  refine ⟨fun pins s σ H v u Q I r h => ?_⟩
  rw [ha]
  refine wpAny_bind (wpAny_holding (thn (ho.run pins s σ H _ I h) fun ov s1 ⟨x, H1, I1, r1, a, C, dx, p, vs, i, ex, hsl, c, t, q⟩ => ?_))
  subst ex
  obtain rfl : ov = Value.ref a := r1
  refine wpAny_bind (wpAny_standAt (wpAny_bind (wpAny_holding (setslot_ok I1 hsl c t r fun s2 I2 => ?_))))
  exact wpAny_release ⟨σ, _, I2, q⟩
/-- a name of the module, by its value -/
theorem pe_gc {X : Cx} {x : Str} {pos : Pos} {v : V} (hg : Gl X x) (h : ∃ u, X.mg x = some u ∧ RelV v u) (hd : (x == ("__debug__" : Str)) = false := by decide) : PE X (.Name x pos) (tC v) := by
  obtain ⟨u, hm, r⟩ := h
  exact pe_glob hg hm r hd
theorem fnR_of {P : Program} {w : World} {K : PySem.W.Frag} {mg : Str → Option Value} {base : Heap} {CX : CXT} {k : Nat} {f : Addr} {fd : FuncData} {ps : List Str} {sp : Sp} (F : FnOk P w K mg base CX k f fd ps sp) (b : Binds K fd ps []) : FnR P w K mg base CX k f sp := by
  intro A outer s H us vs Q E hr e0 r h
  have hl : us.length = ps.length := by rw [← r.length]; exact F.len _ _ _ _ h
  have KX : K.In s.heap := e0.mod.kin.keeps fun b o e => (e0.bs b o e).1
  have hb := b s us KX (by rw [List.append_nil]; exact hl)
  rw [List.append_nil] at hb
  exact F.run A outer s H ⟨us, []⟩ us vs Q E hr e0 hb r h
end WU

/-! Great ints: powers, exact quotients by divisors of either sign. -/
namespace WU
open PySem PySem.Spec PyProof.Rows L2 SlX
def CPowW (i j : Int) : Prop := 0 ≤ j ∧ (Builtin.Int.intBits i : Int) * j ≤ 2 ^ 27
theorem op_powW {X : Cx} : OpR X (binaryOp .Pow) (rI CPowW fun i j => .int (i ^ j.toNat)) := opI fun _ _ _ _ _ _ _ hc q => pow_int hc.1 hc.2 q
def CDivX (_ j : Int) : Prop := j ≠ 0 ∧ j.natAbs.log2 < 9000
theorem op_fdivX {X : Cx} : OpR X (binaryOp .FloorDiv) (rI CDivX fun i j => .int (i.fdiv j)) := opI fun i j _ _ _ _ _ hc q => floordiv_int hc.1 q (.inl (PyProof.noPylong_of_log2 hc.2))
end WU

/-! What is said of the heap: extensions, a jar of draws, amounts, kinds of values. -/
namespace WU
open PySem PySem.Spec PyProof.Rows L2 SlX
open Evl (Ex)
/-- all but the jar at p is kept -/
def Keep (p : Addr) (H H' : Hp) : Prop := ∀ a o, a ≠ p → H a = some o → H' a = some o
theorem Keep.refl (p : Addr) (H : Hp) : Keep p H H := fun _ _ _ h => h
theorem Keep.trans {p : Addr} {H H1 H2 : Hp} (a : Keep p H H1) (b : Keep p H1 H2) : Keep p H H2 := fun x o n h => b x o n (a x o n h)
theorem Keep.of {p : Addr} {H H' : Hp} (e : Ex H H') : Keep p H H' := fun a o _ h => e a o h
theorem Keep.upd {p : Addr} {H H' : Hp} {o : HO} (k : Keep p H H') : Keep p H (upd H' p o) := fun a u n h => by
  rw [upd_ne n]
  exact k a u n h
theorem Keep.new {p q : Addr} {H H' : Hp} {o : HO} (k : Keep p H H') (h : H' q = none) : Keep p H (L2.upd H' q o) := fun a u n e => by
  have z := k a u n e
  rw [upd_ne (ne_of_none z h)]
  exact z
/-- what was free ahead is free -/
theorem Keep.back {p q : Addr} {H H' : Hp} (k : Keep p H H') (h : H' q = none) (n : q ≠ p) : H q = none := by
  cases e : H q with
  | none => rfl
  | some o =>
    rw [k q o n e] at h
    cases h
/-- a jar at p with at least n draws left -/
def Jar (H : Hp) (p : Addr) (n : Nat) : Prop := ∃ a b c : Int, H p = some (.lst [.int a, .int b, .int c]) ∧ 0 ≤ a ∧ a < 2 ^ 1000 ∧ 0 ≤ b ∧ b < 2 ^ 62 ∧ 0 ≤ c ∧ c + n ≤ 1000000000
theorem Jar.le {H : Hp} {p : Addr} {n m : Nat} (j : Jar H p n) (h : m ≤ n) : Jar H p m := by
  obtain ⟨a, b, c, e, r⟩ := j
  exact ⟨a, b, c, e, by omega⟩
theorem Jar.ext {H H' : Hp} {p : Addr} {n : Nat} (j : Jar H p n) (e : Ex H H') : Jar H' p n := by
  obtain ⟨a, b, c, h, r⟩ := j
  exact ⟨a, b, c, e _ _ h, r⟩
theorem Jar.ne_none {H : Hp} {p q : Addr} {n : Nat} (j : Jar H p n) (h : H q = none) : q ≠ p := by
  obtain ⟨a, b, c, e, r⟩ := j
  exact Ne.symm (ne_of_none e h)
theorem Jar.new {H : Hp} {p q : Addr} {n : Nat} {o : HO} (j : Jar H p n) (h : H q = none) : Jar (upd H q o) p n := j.ext (Ex.new h)
where
  Ex.new {H : Hp} {p : Addr} {o : HO} (h : H p = none) : Ex H (upd H p o) := Evl.Ex.new h
/-- an object that is no list stays -/
theorem Keep.at {p a : Addr} {H H' : Hp} {n : Nat} {o : HO} (k : Keep p H H') (j : Jar H p n) (h : H a = some o) (hn : ∀ xs, o ≠ .lst xs) : H' a = some o := by
  obtain ⟨x, y, z, e, r⟩ := j
  exact k a o (fun q => by rw [q, e] at h; exact hn _ (Option.some.inj h).symm) h
/-- an amount: the object at a, number n, under d -/
def Am (C : Addr) (H : Hp) (v : V) (n d : Int) : Prop := ∃ a dx, v = .ref a ∧ H a = some (SlO a C dx [some (.int n), some (.int d)]) ∧ H dx = some (.xd [])
theorem Am.ext {C : Addr} {H H' : Hp} {v : V} {n d : Int} (x : Am C H v n d) (e : Ex H H') : Am C H' v n d := by
  obtain ⟨a, dx, h1, h2, h3⟩ := x
  exact ⟨a, dx, h1, e _ _ h2, e _ _ h3⟩
theorem Am.keep {C p : Addr} {H H' : Hp} {v : V} {n d : Int} {m : Nat} (x : Am C H v n d) (k : Keep p H H') (j : Jar H p m) : Am C H' v n d := by
  obtain ⟨a, dx, h1, h2, h3⟩ := x
  exact ⟨a, dx, h1, k.at j h2 (fun _ z => by unfold SlO at z; cases z), k.at j h3 (fun _ z => nomatch z)⟩
theorem Am.slt {C : Addr} {H : Hp} {v : V} {n d : Int} (x : Am C H v n d) : ∃ a dx, v = .ref a ∧ Slt H a C dx [some (.int n), some (.int d)] := by
  obtain ⟨a, dx, h1, h2, h3⟩ := x
  exact ⟨a, dx, h1, .inr ⟨h2, h3⟩⟩
/-- the kinds of values -/
inductive Kd where
  | int | bool | none | str | list | tuple | dict | amt
  deriving DecidableEq
def tyk (C : Addr) : Kd → Value
  | .int => .type "int"
  | .bool => .type "bool"
  | .none => .type "NoneType"
  | .str => .type "str"
  | .list => .type "list"
  | .tuple => .type "tuple"
  | .dict => .type "dict"
  | .amt => .ref C
/-- what the text's class Amount has -/
structure AmC (K : PySem.W.Frag) (C p0 p1 : Addr) : Prop where
  own : OwnC K C
  s0 : Slot1 K C "own_number" p0 0
  s1 : Slot1 K C "own_under" p1 1
  k_int : PySem.W.kitOne K (.ref C) (.type "int") = some false
  k_bool : PySem.W.kitOne K (.ref C) (.type "bool") = some false
  k_str : PySem.W.kitOne K (.ref C) (.type "str") = some false
  t_me : PySem.W.kitOne K (.ref C) (.ref C) = some true
  t_int : PySem.W.kitOne K (.type "int") (.ref C) = some false
  t_bool : PySem.W.kitOne K (.type "bool") (.ref C) = some false
  t_none : PySem.W.kitOne K (.type "NoneType") (.ref C) = some false
  t_str : PySem.W.kitOne K (.type "str") (.ref C) = some false
  t_list : PySem.W.kitOne K (.type "list") (.ref C) = some false
  t_tuple : PySem.W.kitOne K (.type "tuple") (.ref C) = some false
  t_dict : PySem.W.kitOne K (.type "dict") (.ref C) = some false
theorem AmC.kit_int {K : PySem.W.Frag} {C p0 p1 : Addr} (c : AmC K C p0 p1) (k : Kd) : PySem.W.kitOne K (tyk C k) (.type "int") = some (decide (k = .int ∨ k = .bool)) := by
  cases k with
  | amt => exact c.k_int
  | _ => exact kit_ty (by decide +kernel)
theorem AmC.kit_bool {K : PySem.W.Frag} {C p0 p1 : Addr} (c : AmC K C p0 p1) (k : Kd) : PySem.W.kitOne K (tyk C k) (.type "bool") = some (decide (k = .bool)) := by
  cases k with
  | amt => exact c.k_bool
  | _ => exact kit_ty (by decide +kernel)
theorem AmC.kit_str {K : PySem.W.Frag} {C p0 p1 : Addr} (c : AmC K C p0 p1) (k : Kd) : PySem.W.kitOne K (tyk C k) (.type "str") = some (decide (k = .str)) := by
  cases k with
  | amt => exact c.k_str
  | _ => exact kit_ty (by decide +kernel)
theorem AmC.kit_me {K : PySem.W.Frag} {C p0 p1 : Addr} (c : AmC K C p0 p1) (k : Kd) : PySem.W.kitOne K (tyk C k) (.ref C) = some (decide (k = .amt)) := by
  cases k with
  | amt => exact c.t_me
  | int => exact c.t_int
  | bool => exact c.t_bool
  | none => exact c.t_none
  | str => exact c.t_str
  | list => exact c.t_list
  | tuple => exact c.t_tuple
  | dict => exact c.t_dict
theorem Am.ty {K : PySem.W.Frag} {C p0 p1 : Addr} {H : Hp} {v : V} {n d : Int} (x : Am C H v n d) (c : AmC K C p0 p1) : TyW K H v (tyk C .amt) := by
  obtain ⟨a, dx, rfl, h⟩ := x.slt
  exact .sl h c.own.cl c.own.is
def isTy : Value → Bool
  | .type _ => true
  | _ => false
theorem isTy_no : ∀ (l : List Value) (C : Addr), l.all isTy = true → l.contains (.ref C) = false
  | [], _, _ => rfl
  | v :: l, C, h => by
    rw [List.all_cons, Bool.and_eq_true] at h
    rw [List.contains_cons, isTy_no l C h.2, Bool.or_false]
    cases v <;> first | rfl | (exact absurd h.1 Bool.false_ne_true)
theorem sub_ty {K : PySem.W.Frag} {C : Addr} {T : String} (h : ((fastBuiltinMro T).any fun l => l.all isTy) = true) : PySem.W.subIn K (.type T) (.ref C) = some false := by
  unfold PySem.W.subIn
  cases e : fastBuiltinMro T with
  | none => rw [e] at h; cases h
  | some l =>
    rw [e] at h
    show (fastBuiltinMro T).map (fun x => x.contains (.ref C)) = some false
    rw [e, Option.map_some, isTy_no l C h]
theorem kit_ref_ty {K : PySem.W.Frag} {C : Addr} {T : String} (h : PySem.W.mroIn K C (.type T) = some false) (m : PySem.W.kitMeta T = true) : PySem.W.kitOne K (.ref C) (.type T) = some false := by
  unfold PySem.W.kitOne
  rw [if_neg (by simp)]
  unfold PySem.W.kitCls
  simp only [m, if_true]
  exact h
theorem kit_ty_ref {K : PySem.W.Frag} {C : Addr} {T : String} (h : ((fastBuiltinMro T).any fun l => l.all isTy) = true) (ic : PySem.W.isClsIn K C = true) (ty : PySem.W.typeIn K (.ref C) = some (.type "type")) : PySem.W.kitOne K (.type T) (.ref C) = some false := by
  unfold PySem.W.kitOne
  rw [if_neg (by simp)]
  unfold PySem.W.kitCls
  have e : ((PySem.W.clsIn K C).isSome && PySem.W.typeIn K (.ref C) == some (.type "type")) = true := by
    rw [Bool.and_eq_true]
    exact ⟨ic, by rw [ty]; exact beq_self_eq_true _⟩
  simp only [e, if_true]
  exact sub_ty h
theorem kit_self {K : PySem.W.Frag} {C : Addr} : PySem.W.kitOne K (.ref C) (.ref C) = some true := by
  unfold PySem.W.kitOne
  rw [if_pos (beq_self_eq_true _)]
theorem AmC.of {K : PySem.W.Frag} {C p0 p1 : Addr} (own : OwnC K C) (s0 : Slot1 K C "own_number" p0 0) (s1 : Slot1 K C "own_under" p1 1) (ty : PySem.W.typeIn K (.ref C) = some (.type "type")) : AmC K C p0 p1 where
  own := own
  s0 := s0
  s1 := s1
  k_int := kit_ref_ty own.m_int (by decide +kernel)
  k_bool := kit_ref_ty own.m_bool (by decide +kernel)
  k_str := kit_ref_ty own.m_str (by decide +kernel)
  t_me := kit_self
  t_int := kit_ty_ref (by decide +kernel) own.cl.ic ty
  t_bool := kit_ty_ref (by decide +kernel) own.cl.ic ty
  t_none := kit_ty_ref (by decide +kernel) own.cl.ic ty
  t_str := kit_ty_ref (by decide +kernel) own.cl.ic ty
  t_list := kit_ty_ref (by decide +kernel) own.cl.ic ty
  t_tuple := kit_ty_ref (by decide +kernel) own.cl.ic ty
  t_dict := kit_ty_ref (by decide +kernel) own.cl.ic ty
theorem AmC.nf {K : PySem.W.Frag} {C p0 p1 : Addr} (c : AmC K C p0 p1) (k : Kd) : PySem.W.notFirst K C (tyk C k) = true := by
  unfold PySem.W.notFirst
  cases k with
  | amt => exact Bool.or_eq_true_iff.mpr (.inl (beq_self_eq_true _))
  | _ => exact Bool.or_eq_true_iff.mpr (.inr (beq_iff_eq.mpr (sub_ty (by decide +kernel))))
/-- a while whose test answers b at each turn and leaves the heap -/
theorem while_a {c : TT} {tb : TS} {D : Ends} {σ : L2.St} {H : Hp} (W : Nat → L2.St → Hp → Prop) (m : Nat) (w0 : W m σ H)
    (hs : ∀ m σ H, W m σ H → ∃ b : Bool, (∀ Q : Bool → Hp → Prop, Q b H → c σ H Q) ∧ (b = true → ∀ N : L2.St → Hp → Prop, (∀ m' σ' H', m' < m → W m' σ' H' → N σ' H') → tb { D with nx := N, ct := N, bk := D.nx } σ H) ∧ (b = false → D.nx σ H)) : tWhile c tb D σ H := by
  refine ⟨W, ⟨m, w0⟩, fun m σ H w => ?_⟩
  obtain ⟨b, h1, h2, h3⟩ := hs m σ H w
  refine h1 _ ?_
  cases b with
  | true =>
    show (if true = true then _ else _)
    rw [if_pos rfl]
    exact ⟨_, fun _ _ n => n, h2 rfl _ fun m' σ' H' l w' => ⟨m', l, w'⟩⟩
  | false =>
    show (if false = true then _ else _)
    rw [if_neg Bool.false_ne_true]
    exact h3 rfl
theorem iteN {c : Bool} {A B : Prop} (h : c = false) (k : B) : if c = true then A else B := by
  subst h
  exact iteF k
theorem iteY {c : Bool} {A B : Prop} (h : c = true) (k : A) : if c = true then A else B := by
  subst h
  exact iteT k
theorem abs_eq (i : Int) : (if i < 0 then -i else i) = (i.natAbs : Int) := by split <;> omega
theorem dec_f {p : Prop} [Decidable p] (h : ¬ p) : decide p = false := decide_eq_false h
theorem dec_t {p : Prop} [Decidable p] (h : p) : decide p = true := decide_eq_true h
/-- a.own_number, a.own_under of an amount -/
def tNum (C : Addr) (ta : TE) : TE := fun σ H Q => ta σ H fun x H1 => ∃ n d, Am C H1 x n d ∧ Q (.int n) H1
def tDen (C : Addr) (ta : TE) : TE := fun σ H Q => ta σ H fun x H1 => ∃ n d, Am C H1 x n d ∧ Q (.int d) H1
section
variable {X : Cx} {e : Expr} {pos : Pos} {ta : TE} {C p0 p1 : Addr}
theorem pe_num (T : AmC X.K C p0 p1) (he : PE X e ta) (hb : attributeBase e "own_number" X.env (eval e X.env) = eval e X.env := by rfl) : PE X (.Attribute e "own_number" pos) (tNum C ta) := by
  refine ⟨fun pins s σ H Q I h => ?_⟩
  refine attr_of hb (thn (he.run pins s σ H _ I h) fun u s1 ⟨x, H1, I1, rx, n, d, am, q⟩ => ?_)
  obtain ⟨a, dx, rfl, hs⟩ := am.slt
  obtain rfl : u = Value.ref a := rx
  exact getslot_ok I1 hs T.own.cl T.s0 rfl fun u' s2 I2 ru => ⟨_, H1, I2, ru, q⟩
theorem pe_den (T : AmC X.K C p0 p1) (he : PE X e ta) (hb : attributeBase e "own_under" X.env (eval e X.env) = eval e X.env := by rfl) : PE X (.Attribute e "own_under" pos) (tDen C ta) := by
  refine ⟨fun pins s σ H Q I h => ?_⟩
  refine attr_of hb (thn (he.run pins s σ H _ I h) fun u s1 ⟨x, H1, I1, rx, n, d, am, q⟩ => ?_)
  obtain ⟨a, dx, rfl, hs⟩ := am.slt
  obtain rfl : u = Value.ref a := rx
  exact getslot_ok I1 hs T.own.cl T.s1 rfl fun u' s2 I2 ru => ⟨_, H1, I2, ru, q⟩
end
end WU

/-! Fractions in least terms: plain mathematics. -/
namespace FrM
def g (n u : Int) : Nat := Nat.gcd n.natAbs u.natAbs
def num (n u : Int) : Int := (if 0 < u then n else -n) / (g n u : Int)
def den (n u : Int) : Int := (u.natAbs : Int) / (g n u : Int)
structure Red (n d : Int) : Prop where
  pos : 0 < d
  cop : Nat.gcd n.natAbs d.natAbs = 1
theorem g_pos {n u : Int} (h : u ≠ 0) : 0 < g n u := Nat.gcd_pos_of_pos_right _ (by omega)
theorem g_dn (n u : Int) : (g n u : Int) ∣ n := Int.ofNat_dvd_left.mpr (Nat.gcd_dvd_left _ _)
theorem g_du (n u : Int) : (g n u : Int) ∣ u := Int.ofNat_dvd_left.mpr (Nat.gcd_dvd_right _ _)
theorem num_mul {n u : Int} (h : u ≠ 0) : num n u * (g n u : Int) = if 0 < u then n else -n := by
  unfold num
  apply Int.ediv_mul_cancel
  split
  · exact g_dn n u
  · exact Int.dvd_neg.mpr (g_dn n u)
theorem den_mul {n u : Int} (h : u ≠ 0) : den n u * (g n u : Int) = (u.natAbs : Int) := by
  unfold den
  apply Int.ediv_mul_cancel
  exact Int.natCast_dvd_natCast.mpr (Nat.gcd_dvd_right _ _)
theorem den_pos {n u : Int} (h : u ≠ 0) : 0 < den n u := by
  have h1 := den_mul (n := n) h
  have h2 : 0 < (g n u : Int) := by have := g_pos (n := n) h; omega
  have h3 : 0 < (u.natAbs : Int) := by omega
  rcases Int.lt_or_le 0 (den n u) with z | z
  · exact z
  · exfalso
    have : den n u * (g n u : Int) ≤ 0 := Int.mul_nonpos_of_nonpos_of_nonneg z (by omega)
    omega
theorem num_abs {n u : Int} (h : u ≠ 0) : (num n u).natAbs * g n u = n.natAbs := by
  have h1 := congrArg Int.natAbs (num_mul (n := n) h)
  rw [Int.natAbs_mul, Int.natAbs_natCast] at h1
  rw [h1]
  split <;> omega
theorem den_abs {n u : Int} (h : u ≠ 0) : (den n u).natAbs * g n u = u.natAbs := by
  have h1 := congrArg Int.natAbs (den_mul (n := n) h)
  rw [Int.natAbs_mul, Int.natAbs_natCast, Int.natAbs_natCast] at h1
  exact h1
theorem red {n u : Int} (h : u ≠ 0) : Red (num n u) (den n u) := by
  refine ⟨den_pos h, ?_⟩
  have hg := g_pos (n := n) h
  have e1 := num_abs (n := n) h
  have e2 := den_abs (n := n) h
  have h3 : Nat.gcd ((num n u).natAbs * g n u) ((den n u).natAbs * g n u) = g n u := by
    rw [e1, e2]
    rfl
  rw [Nat.gcd_mul_right] at h3
  have h4 : Nat.gcd (num n u).natAbs (den n u).natAbs * g n u = 1 * g n u := by omega
  exact Nat.eq_of_mul_eq_mul_right hg h4
/-- a fraction that is one of a reduced one's makes has its least terms -/
theorem of_scaled {n d : Int} (r : Red n d) {k : Int} (hk : 0 < k) : num (n * k) (d * k) = n ∧ den (n * k) (d * k) = d := by
  have hd := r.pos
  have hu : 0 < d * k := Int.mul_pos hd hk
  have hg : (g (n * k) (d * k) : Int) = k := by
    unfold g
    rw [Int.natAbs_mul, Int.natAbs_mul, Nat.gcd_mul_right, r.cop]
    omega
  unfold num den
  rw [hg, if_pos hu]
  refine ⟨Int.mul_ediv_cancel _ (by omega), ?_⟩
  have : ((d * k).natAbs : Int) = d * k := by omega
  rw [this]
  exact Int.mul_ediv_cancel _ (by omega)
theorem of_red {n d : Int} (r : Red n d) : num n d = n ∧ den n d = d := by
  have h := of_scaled r (k := 1) (by omega)
  rw [Int.mul_one, Int.mul_one] at h
  exact h
theorem red_int (n : Int) : Red n 1 := ⟨by omega, by simp⟩
theorem num_one (n : Int) : num n 1 = n := (of_red (red_int n)).1
theorem den_one (n : Int) : den n 1 = 1 := (of_red (red_int n)).2
/-- two fractions in least terms are equal just if they are the same -/
theorem red_inj {n d n' d' : Int} (r : Red n d) (r' : Red n' d') (h : n * d' = n' * d) : n = n' ∧ d = d' := by
  have hd := r.pos
  have hd' := r'.pos
  have ha : n.natAbs * d'.natAbs = n'.natAbs * d.natAbs := by
    have := congrArg Int.natAbs h
    rwa [Int.natAbs_mul, Int.natAbs_mul] at this
  have c1 : Nat.Coprime d.natAbs n.natAbs := Nat.Coprime.symm r.cop
  have c2 : Nat.Coprime d'.natAbs n'.natAbs := Nat.Coprime.symm r'.cop
  have q1 : d.natAbs ∣ d'.natAbs := by
    apply Nat.Coprime.dvd_of_dvd_mul_left c1
    rw [ha]
    exact Nat.dvd_mul_left _ _
  have q2 : d'.natAbs ∣ d.natAbs := by
    apply Nat.Coprime.dvd_of_dvd_mul_left c2
    rw [← ha]
    exact Nat.dvd_mul_left _ _
  have e : d = d' := by
    have := Nat.dvd_antisymm q1 q2
    omega
  refine ⟨?_, e⟩
  rw [e] at h
  exact Int.eq_of_mul_eq_mul_right (by omega) h
/-- the quotients by the signed divisor -/
theorem num_fdiv {n u : Int} (h : u ≠ 0) : n.fdiv ((g n u : Int) * (if 0 < u then 1 else -1)) = num n u := by
  have hg := g_pos (n := n) h
  have e := num_mul (n := n) h
  have hn : n = ((g n u : Int) * (if 0 < u then 1 else -1)) * num n u := by
    split at e
    · rename_i z
      rw [if_pos z, Int.mul_one, Int.mul_comm]
      exact e.symm
    · rename_i z
      rw [if_neg z, Int.mul_neg, Int.mul_one, Int.neg_mul, Int.mul_comm]
      omega
  have hne : ((g n u : Int) * (if 0 < u then 1 else -1)) ≠ 0 := by
    split
    · omega
    · rw [Int.mul_neg]
      omega
  calc n.fdiv ((g n u : Int) * (if 0 < u then 1 else -1)) = (((g n u : Int) * (if 0 < u then 1 else -1)) * num n u).fdiv ((g n u : Int) * (if 0 < u then 1 else -1)) := by rw [← hn]
    _ = num n u := Int.mul_fdiv_cancel_left _ hne
theorem den_fdiv {n u : Int} (h : u ≠ 0) : u.fdiv ((g n u : Int) * (if 0 < u then 1 else -1)) = den n u := by
  have hg := g_pos (n := n) h
  have e := den_mul (n := n) h
  have hn : u = ((g n u : Int) * (if 0 < u then 1 else -1)) * den n u := by
    split
    · rename_i z
      rw [Int.mul_one, Int.mul_comm]
      omega
    · rename_i z
      rw [Int.mul_neg, Int.mul_one, Int.neg_mul, Int.mul_comm]
      omega
  have hne : ((g n u : Int) * (if 0 < u then 1 else -1)) ≠ 0 := by
    split
    · omega
    · rw [Int.mul_neg]
      omega
  calc u.fdiv ((g n u : Int) * (if 0 < u then 1 else -1)) = (((g n u : Int) * (if 0 < u then 1 else -1)) * den n u).fdiv ((g n u : Int) * (if 0 < u then 1 else -1)) := by rw [← hn]
    _ = den n u := Int.mul_fdiv_cancel_left _ hne
/-- the law's own way: the sign first -/
theorem num_law {n u : Int} (h : u ≠ 0) : ((if 0 < u then 1 else -1) * n).fdiv (g n u : Int) = num n u := by
  rw [Int.fdiv_eq_ediv_of_nonneg _ (by omega)]
  unfold num
  split <;> simp
theorem den_law {n u : Int} (h : u ≠ 0) : ((if 0 < u then 1 else -1) * u).fdiv (g n u : Int) = den n u := by
  rw [Int.fdiv_eq_ediv_of_nonneg _ (by omega)]
  unfold den
  split
  · congr 1
    omega
  · congr 1
    omega
theorem num_le {n u : Int} (h : u ≠ 0) : (num n u).natAbs ≤ n.natAbs := by
  have e := num_abs (n := n) h
  have hg := g_pos (n := n) h
  calc (num n u).natAbs = (num n u).natAbs * 1 := (Nat.mul_one _).symm
    _ ≤ (num n u).natAbs * g n u := Nat.mul_le_mul_left _ hg
    _ = n.natAbs := e
theorem den_le {n u : Int} (h : u ≠ 0) : (den n u).natAbs ≤ u.natAbs := by
  have e := den_abs (n := n) h
  have hg := g_pos (n := n) h
  calc (den n u).natAbs = (den n u).natAbs * 1 := (Nat.mul_one _).symm
    _ ≤ (den n u).natAbs * g n u := Nat.mul_le_mul_left _ hg
    _ = u.natAbs := e
theorem g_le {n u : Int} (h : u ≠ 0) : g n u ≤ u.natAbs := Nat.gcd_le_right _ (by omega)
/-- one turn of the divisor's search -/
theorem gcd_turn {a b : Int} (ha : 0 ≤ a) (hb : 0 < b) : Nat.gcd b.natAbs (a.fmod b).natAbs = Nat.gcd a.natAbs b.natAbs := by
  rw [Int.fmod_eq_emod_of_nonneg a (by omega)]
  have e : (a % b).natAbs = a.natAbs % b.natAbs := by
    rw [← Int.natAbs_of_nonneg ha, ← Int.natAbs_of_nonneg (show 0 ≤ b by omega)]
    exact (Int.natAbs_natCast (a.natAbs % b.natAbs)).trans (by simp)
  rw [e, Nat.gcd_comm a.natAbs b.natAbs, Nat.gcd_rec b.natAbs a.natAbs, Nat.gcd_comm]
end FrM

/-! An own exception whose __init__ says super().__init__(value) and then self.value = value: what making one does. -/
namespace WU
open PySem PySem.Spec PyProof.Rows L2 PySem.W PySem.Calls
/-- the body of such an __init__ -/
abbrev meB (p0 p1 p2 p3 p4 p5 p6 p7 p8 p9 : Pos) : List Stmt :=
  [.Expr (.Call (.Attribute (.Call (.Name "super" p0) [] [] p1) "__init__" p2) [.Name "value" p3] [] p4) p5, .Assign [.Attribute (.Name "self" p6) "value" p7] (.Name "value" p8) p9]
abbrev meSc : Scope := { kind := .function, names := [("self", .local), ("value", .local), ("__class__", .free), ("super", .globalImplicit)], isGenerator := false, isCoroutine := false, more := [] }
abbrev meAr (pa pb : Pos) : Arguments := { posonlyargs := [], args := [{ arg := "self", annotation := none, pos := pa }, { arg := "value", annotation := none, pos := pb }], vararg := none, kwonlyargs := [], kw_defaults := [], kwarg := none, defaults := [] }
/-- what is known of the __init__ at f, written in the class at D -/
structure MeI (prog : Program) (K : Frag) (D f : Addr) : Prop where
  ex : ∃ (qual : Str) (kV doc pm ct oc ccl cl : Value) (an od cdd cld : Option Addr) (osl ccs csl : Array (Option Value)) (cc cda : Addr) (vs : Array Value) (file : Str) (tf : Tok) (cdD : ClassData) (pa pb p0 p1 p2 p3 p4 p5 p6 p7 p8 p9 : Pos),
    K.lookup f = some ⟨oc, od, .func (ksFn "__init__" qual (meAr pa pb) (meB p0 p1 p2 p3 p4 p5 p6 p7 p8 p9) meSc .none kV doc pm an (.ref cda) ct cc), osl⟩ ∧ codeIn K (.ref cda) qual = true ∧
    K.lookup cda = some ⟨ccl, cdd, .fields vs, ccs⟩ ∧ vs[2]? = some (.str file tf) ∧ ((prog.main.file : Str) == file) = true ∧
    K.lookup cc = some ⟨cl, cld, .cell (some (.ref D)), csl⟩ ∧ clsIn K D = some cdD ∧ (prog.main.scope.names.lookup ("super" : Str)).isSome = false ∧ (p2.endLine == p4.line) = true
  op : nsIn K cStatics "thirdparty.any" = some none
/-- what is known of a class C at or below D -/
structure MeC (K : Frag) (C D f : Addr) : Prop where
  o : OexC K C
  i : findIn K (.ref C) "__init__" = some (some (.ref f))
  t : typeIn K (.ref f) = some (.type "function")
  m : mroIn K C (.ref D) = some true
  s : ks_superIn K C D "__init__" = some (some (.builtin "ValueError.__init__"))
  b : subIn K (.ref C) (.type "ValueError") = some true
  v : findIn K (.ref C) "value" = some none
abbrev excD (C t dx : Addr) : Obj := { cls := .ref C, dict := some dx, data := .fields #[.ref t, .none, .none, .none, .bool false, .none] }
theorem mei_run {prog : Program} {w : World} {A : Around} {K : Frag} {mg : Str → Option Value} {R : Result → Shared → Prop} {s : Shared} {f x C D t0 : Addr} {v : Value} (M : MeI prog K D f) (T : MeC K C D f)
    (md : Mod K mg s.heap) (hmg : mg "super" = none) (hroom : A.depth < recursionLimit) (hxK : K.lookup x = none) (hx : s.heap.get? x = some (HandSPX.excO C t0))
    (hq : ∀ h' tk dx t1, (∀ b o, b ≠ x → s.heap.get? b = some o → h'.get? b = some o) → s.heap.objs.size ≤ dx → dx ≠ x → h'.get? x = some (excD C t1 dx) → h'.Ns1 dx (fun y => if y = "value" then some v else none) → R (.ok (.ret .none)) { s with heap := h', toks := tk }) :
    codeAny (model prog w) A (.call (.ref f) ⟨[.ref x, v], []⟩) R s := by
  obtain ⟨⟨qual, kV, doc, pm, ct, oc, ccl, cl, an, od, cdd, cld, osl, ccs, csl, cc, cda, vs, file, tf, cdD, pa, pb, p0, p1, p2, p3, p4, p5, p6, p7, p8, p9, lk, hcd, hcode, hvs, hfile, hcell, hD, htop, hpos⟩, op⟩ := M
  obtain ⟨nm, q, N, bs, bm, sn, sub, ab, col, dd, c0, c1, c2, c3, c5, hC, hbm⟩ := T.o.cls
  have KX : K.In s.heap := md.kin
  have hlt : x < s.heap.objs.size := Heap.lt_size hx
  refine ks_codeAny_call_defAt (fd := ksFn "__init__" qual (meAr pa pb) (meB p0 p1 p2 p3 p4 p5 p6 p7 p8 p9) meSc .none kV doc pm an (.ref cda) ct cc) (body := meB p0 p1 p2 p3 p4 p5 p6 p7 p8 p9) (binds := [("self", .ref x), ("value", v)]) hroom (KX _ _ lk) rfl md.nolimit (codeRec_of KX hcd) rfl (.of_eq rfl) (show ∀ y ∈ meSc.names, y.2 ≠ .cell by decide) ?_ (fun h₀ hns hk => ?_) rfl rfl rfl
  · intro y hy
    simp only [List.mem_cons, List.mem_nil_iff, or_false] at hy
    rcases hy with rfl | rfl <;> rfl
  obtain ⟨hp0, g, d, t, os⟩ := s
  dsimp only at *
  have X0 : K.In h₀ := KX.keeps hk
  have hL : hp0.objs.size < h₀.objs.size := hns.lt
  have hx0 := hk _ _ hx
  obtain ⟨mb, mb1, mb2⟩ := md.blt
  obtain ⟨oD, hD1, hD2⟩ : ∃ oD, h₀.get? D = some oD ∧ oD.data = .cls cdD := by
    unfold clsIn at hD
    split at hD
    · rename_i c d cd' sl ho
      cases hD
      exact ⟨_, X0 _ _ ho, rfl⟩
    · cases hD
  have he : ∀ env : Env, eval (.Call (.Attribute (.Call (.Name "super" p0) [] [] p1) "__init__" p2) [.Name "value" p3] [] p4) env = (do
      let ov ← attributeBase (.Call (.Name "super" p0) [] [] p1) "__init__" env (eval (.Call (.Name "super" p0) [] [] p1) env)
      standAt p2.atName
      let (f, first) ← holding [ov] (getMethod ov "__init__" (do return (← importBound (.Call (.Name "super" p0) [] [] p1) env).getD true))
      callWith p4 f first (backTo p4 (starEach [.Name "value" p3] env)) []) := fun env => by
    show (do
      let ov ← attributeBase (.Call (.Name "super" p0) [] [] p1) "__init__" env (eval (.Call (.Name "super" p0) [] [] p1) env)
      standAt p2.atName
      methodCall (.Call (.Name "super" p0) [] [] p1) "__init__" p2 p4 env ov 1 (backTo p4 (starEach [.Name "value" p3] env)) []) = _
    unfold methodCall methodCallPos
    simp only [hpos, Bool.or_true, if_true, pure_bind]
    rfl
  refine ks_wpAt_execs_cons (ks_wpAt_Expr_any (ks_wpAt_MethodCall ?_ (he _)))
  refine ks_wpAt_super_base (f := f) (cc := cda) (ar := { arg := "self", annotation := none, pos := pa }) rfl rfl (by decide) rfl (X0 _ _ lk) rfl rfl rfl (X0 _ _ hcode) rfl hvs hfile htop ?_
  refine ks_loadName_global rfl rfl (loadGlobal_builtin (md.glob.keeps hk) hmg (mb1.keeps hk) ((mb2 _ (by decide)).trans (by first | exact PyProof.Rows.Boot.«super» | rfl | kernel_rfl)) ⟨rfl, ?_⟩)
  refine wpAny_loadName_free rfl rfl rfl ⟨_, X0 _ _ hcell, rfl⟩ ?_
  refine wpAny_loadName_local rfl rfl hns rfl ?_
  refine ks_wpAny_isType_cls hD1 hD2 ⟨rfl, ?_⟩
  refine ks_wpAny_call_super hD1 hD2 hx0 rfl (fun c e => nomatch e) (looks_mroIn X0 T.m) (fun h1 hso kk1 => ?_)
  have X1 : K.In h1 := X0.keeps kk1
  have hx1 := kk1 _ _ hx0
  have hcl : clsIn K C = some { name := nm, bases := bs, mro := .ref C :: bm, ns := N, qualname := q, hasDict := true, slotNames := sn, subclasses := sub, abstract := ab, collection := col, hasDel := false } := by unfold clsIn; rw [hC] <;> rfl
  have hss := T.s
  unfold ks_superIn at hss
  rw [hcl, Option.bind_some] at hss
  have hI1 : Looks (model prog w) h1 (isInstance (.ref x) (.type "ValueError")) true := (show InstAt h1 x _ C none from ⟨hx1, rfl, rfl, trivial⟩).type.andThen (looks_subIn X1 T.b)
  have hxC : x ≠ C := fun z => by
    have e := X1 _ _ hC
    rw [← z, hx1] at e
    cases e
  refine kxs_getMethod kxs_ValueError hso (looks_opaque X1 op) (l₀ := .ref C :: bm) (fun A Q E s k q => wpAny_bind ((looks_clsIn X1 hcl) A _ E s k (wpAny_pure q))) rfl X1 hss hI1 hxC (by decide) ?_
  have kk2 : ∀ b o, h1.get? b = some o → (h1.push (kxs_mw "ValueError.__init__" x)).get? b = some o := fun b o e => Heap.get?_push_of_some _ e
  have hu : (h1.push (kxs_mw "ValueError.__init__" x)).get? h1.objs.size = some (kxs_mw "ValueError.__init__" x) := Heap.get?_push_at rfl rfl
  have hns2 : (h1.push (kxs_mw "ValueError.__init__" x)).Ns hp0.objs.size (fun y => List.lookup y ([("self", Value.ref x), ("value", v)] : List (Str × Value)).reverse) := (hns.keeps kk1).keeps kk2
  have hx2 := kk2 _ _ hx1
  have X2 : K.In (h1.push (kxs_mw "ValueError.__init__" x)) := X1.keeps kk2
  show wpAny _ _ (callWith p4 (.ref h1.objs.size) [] (backTo p4 (starEach [.Name "value" p3] _)) []) _ _ _
  refine kxs_callWith (i := "ValueError.__init__") (x := x) rfl (evalArgs_plain ?_)
  refine Calls.spliced_cons (ldc rfl rfl hns2 rfl ?_)
  refine Calls.spliced_nil ⟨hu, ?_⟩
  show wpAny _ _ (call (.ref h1.objs.size) [v]) _ _ _
  have FB := F.excBase_ValueError
  refine wpAny_call (codeAny_of_tree ?_)
  show wpAny _ _ (callAny (.ref h1.objs.size) ⟨[v], []⟩) _ _ _
  simp only [callAny]
  refine wpAny_bind (wpAny_load hu ?_)
  simp only [kxs_mw, show (Value.type "method-wrapper" == Value.type "method" || Value.type "method-wrapper" == Value.type "builtin_function_or_method" || Value.type "method-wrapper" == Value.type "method-wrapper") = true by decide, if_true]
  refine KFB.if_so (by decide) ?_
  refine wpAny_bind (check_bound_init FB.toExcCallFacts (X2 _ _ hC) hx2 rfl ?_)
  refine wpAny_bind (wpAny_pure (wpAny_pure ?_))
  refine ⟨plainId_quiet FB.init.plain _, codeAny_builtin FB.initEntry ?_⟩
  refine exc_init_tree (cls := .ref C) (t0 := t0) (dv := none) (c2 := .none) (c3 := .none) (b4 := .bool false) hx2 (by show 1 ≤ _; rw [sizeLine_eq]; omega) fun h3 kk3 hx3 _ => ?_
  have X3 : K.In h3 := fun b o e => kk3 b o (fun z => by rw [z, hxK] at e; cases e) (X2 b o e)
  have hxL : hp0.objs.size ≠ x := Nat.ne_of_gt hlt
  have hns3 : h3.Ns hp0.objs.size (fun y => List.lookup y ([("self", Value.ref x), ("value", v)] : List (Str × Value)).reverse) := by
    obtain ⟨oL, es, ep, e1, r⟩ := hns2
    exact ⟨oL, es, ep, kk3 _ _ hxL e1, r⟩
  have hx3' : h3.get? x = some (HandSPX.excO C (h1.push (kxs_mw "ValueError.__init__" x)).objs.size) := hx3
  have sz : hp0.objs.size ≤ h3.objs.size := by
    obtain ⟨oL, es, ep, e1, r⟩ := hns3
    exact Nat.le_of_lt (Heap.lt_size e1)
  show PySem.wpAt _ _ _ (execs [.Assign [.Attribute (.Name "self" p6) "value" p7] (.Name "value" p8) p9] _) _ _ _
  refine ks_wpAt_execs_cons (wpAt_of_wpAny (plainObj_wpAny_Assign_Attribute ?_))
  refine ldc rfl rfl hns3 rfl ?_
  refine ldc rfl rfl hns3 rfl ?_
  refine set_plain X3 (ox := HandSPX.excO C (h1.push (kxs_mw "ValueError.__init__" x)).objs.size) (od := none) ⟨hx3', rfl, rfl, trivial⟩ T.o.sa ?_
  refine HandSPX.exc_osa X3 hx3' hcl (show HandSPX.refsVE (.ref C :: bm) = true from hbm) rfl T.v (fun h4 tk dx kk4 dn dne hx4 hn4 => ?_)
  refine wpAt_of_wpAny (wpAny_execs_nil ?_)
  exact hq h4 tk dx _ (fun b o hb e => kk4 b o hb (kk3 b o hb (kk2 b o (kk1 b o (hk b o e))))) (Nat.le_trans sz dn) dne hx4 hn4
end WU

/-! Own exceptions in the hand layer: made, raised, caught and kept, asked. -/
namespace WU
open PySem PySem.Spec PyProof.Rows L2
theorem _root_.L2.Mod.keeps {K : PySem.W.Frag} {mg : Str → Option Value} {h h' : Heap} (m : Mod K mg h) (k : ∀ b o, h.get? b = some o → h'.get? b = some o) : Mod K mg h' := by
  obtain ⟨mb, h1, h2⟩ := m.blt
  exact ⟨m.kin.keeps k, m.glob.keeps k, ⟨mb, h1.keeps k, h2⟩, m.nolimit.keeps k⟩
/-- what the program's error classes are known by: D the class with the __init__ at f -/
structure ErC (prog : Program) (K : PySem.W.Frag) (mg : Str → Option Value) (D f : Addr) : Prop where
  i : MeI prog K D f
  s : mg "super" = none
/-- at a: an exception of the class cls, its dict at d -/
def ErO (a : Addr) (cls : Value) (d : Option Addr) : HO := .ext fun h => ∃ (o : Obj) (vs : Array Value), h.get? a = some o ∧ o.cls = cls ∧ o.dict = d ∧ o.data = .fields vs
theorem erO_ok {P : Program} {w : World} {H : Hp} {h : Heap} {a : Addr} {cls : Value} {d : Option Addr} {o : Obj} {vs : Array Value} (h1 : h.get? a = some o) (h2 : o.cls = cls) (h3 : o.dict = d) (h4 : o.data = .fields vs) : ObjOk P w H h a (ErO a cls d) :=
  ⟨⟨o, vs, h1, h2, h3, h4⟩, ⟨o, h1⟩, fun h1 h2 ⟨o, vs, a1, a2, a3, a4⟩ k => ⟨o, vs, k _ a1, a2, a3, a4⟩⟩
theorem erO_at {P : Program} {w : World} {H : Hp} {h : Heap} {a : Addr} {cls : Value} {d : Option Addr} (hok : HOk P w H h) (e : H a = some (ErO a cls d)) : ∃ (o : Obj) (vs : Array Value), h.get? a = some o ∧ o.cls = cls ∧ o.dict = d ∧ o.data = .fields vs := by
  obtain ⟨z, _, _⟩ := hok a _ e
  exact z
theorem erO_ne {a : Addr} {cls : Value} {d : Option Addr} {xs : List V} : ErO a cls d ≠ .lst xs := fun z => by unfold ErO at z; cases z
section
variable {X : Cx} {pins : List (Addr × Obj)} {σ : L2.St} {H : Hp} {s : Shared} {C D f : Addr} {E : Value → Shared → Prop} {Q : Value → Shared → Prop} {u : Value}
/-- C(u) -/
theorem me_make (M : ErC X.prog X.K X.mg D f) (T : MeC X.K C D f) (I : Inv X pins σ H s) (hr : Room 2 X.A)
    (h : ∀ a dx h' tk t1, (∀ b o, s.heap.get? b = some o → h'.get? b = some o) → s.heap.objs.size ≤ a → s.heap.objs.size ≤ dx → dx ≠ a → h'.get? a = some (excD C t1 dx) → h'.Ns1 dx (fun y => if y = "value" then some u else none) → Q (.ref a) { s with heap := h', toks := tk }) :
    wpAny (model X.prog X.w) X.A (call (.ref C) [u]) Q E s := by
  obtain ⟨nm, q, N, bs, bm, sn, sub, ab, col, dd, k0, k1, k2, k3, k5, hC, hbm⟩ := T.o.cls
  obtain ⟨hp, g, dr, tk, os⟩ := s
  have kk : ∀ b o, hp.get? b = some o → ((hp.push (PySem.W.kdv_tup [u])).push (PySem.HandSPX.excO C hp.objs.size)).get? b = some o := fun b o e => Heap.get?_push_of_some _ (Heap.get?_push_of_some _ e)
  have hget : ((hp.push (PySem.W.kdv_tup [u])).push (PySem.HandSPX.excO C hp.objs.size)).get? (hp.objs.size + 1) = some (PySem.HandSPX.excO C hp.objs.size) := by heap_get
  have md : Mod X.K X.mg ((hp.push (PySem.W.kdv_tup [u])).push (PySem.HandSPX.excO C hp.objs.size)) := I.ok.mod.keeps fun b o e => kk b o (I.bk b o e)
  have hsz : ((hp.push (PySem.W.kdv_tup [u])).push (PySem.HandSPX.excO C hp.objs.size)).objs.size = hp.objs.size + 2 := by rw [Heap.size_push, Heap.size_push]
  have hxK : X.K.lookup (hp.objs.size + 1) = none := by
    cases e : X.K.lookup (hp.objs.size + 1) with
    | none => rfl
    | some o =>
      have z := Heap.lt_size (I.kIn _ _ e)
      exact absurd z (by show ¬ (hp.objs.size + 1 < hp.objs.size); omega)
  refine wpAny_call (PySem.HandSPX.call_own F.excBase_ValueError (fun Y => PySem.HandSPX.refsVE_contains Y bm hbm) (I.kIn _ _ hC) (PySem.W.looks_findIn I.kIn T.i) (fun self => PySem.W.bind_fn I.kIn self T.t) (by show 1 ≤ _; rw [sizeLine_eq]; omega) ?_)
  refine mei_run M.i T md M.s (hr.make C [u] []).depth hxK hget fun h' tk' dx t1 k' dn dne hx hn => ?_
  rw [hsz] at dn
  exact ⟨rfl, h _ dx h' tk' t1 (fun b o e => k' b o (Nat.ne_of_lt (Nat.lt_succ_of_lt (Heap.lt_size e))) (kk b o e)) (Nat.le_succ _) (by show hp.objs.size ≤ dx; omega) dne hx hn⟩
end
/-- an object that stands there is known from now on -/
theorem Inv.known {X : Cx} {pins : List (Addr × Obj)} {σ : L2.St} {H : Hp} {s : Shared} {a : Addr} {o : HO} (I : Inv X pins σ H s) (hn : H a = none) (h0 : X.s_0.heap.get? a = none) (hL : a ≠ X.env.locals) (hc : ∀ x c, X.env.cells.lookup x = some c → c ≠ a)
    (hp : ∀ p ∈ X.pn ++ pins, p.1 ≠ a) (new : ObjOk X.prog X.w (upd H a o) s.heap a o) : Inv X pins σ (upd H a o) s := by
  refine ⟨I.ok, I.os, I.bare, ⟨I.base.keep, I.base.slot, fun b u e n hx => ?_, I.base.there, fun b xs e => ?_, fun b u xs e => ?_, fun b ps e => ?_⟩, I.loc, I.cell, ?_, fun x c e => ?_, fun p hq => ?_, fun b u e => ?_, I.len⟩
  · rw [upd_ne (fun z => by rw [z, h0] at e; cases e)]
    exact I.base.free b u e n hx
  · have z := I.base.tups b xs e
    rw [upd_ne (ne_of_none z hn)]
    exact z
  · have z := I.base.frzs b u xs e
    rw [upd_ne (ne_of_none z hn)]
    exact z
  · obtain ⟨more, z⟩ := I.base.tbls b ps e
    refine ⟨more, ?_⟩
    rw [upd_ne (ne_of_none z hn)]
    exact z
  · rw [upd_ne (Ne.symm hL)]
    exact I.free
  · rw [upd_ne (hc x c e)]
    exact I.freeC x c e
  · obtain ⟨p1, p2, p3, p4, p5⟩ := I.pin p hq
    exact ⟨p1, by rw [upd_ne (hp p hq)]; exact p2, p3, p4, p5⟩
  · by_cases hb : b = a
    · subst hb
      rw [upd_same] at e
      cases e
      exact new
    · rw [upd_ne hb] at e
      exact (I.hok b u e).stay (fun _ _ _ q => q) (fun c q => by rw [upd_ne (ne_of_none q hn)]; exact q) (fun c xs q => by rw [upd_ne (ne_of_none q hn)]; exact q)
/-- .. one that is new since s1 -/
theorem Inv.fresh_of {X : Cx} {pins : List (Addr × Obj)} {σ : L2.St} {H : Hp} {s : Shared} {a : Addr} (I : Inv X pins σ H s) (h : s.heap.objs.size ≤ a) : X.s_0.heap.get? a = none ∧ a ≠ X.env.locals ∧ (∀ x c, X.env.cells.lookup x = some c → c ≠ a) ∧ ∀ p ∈ X.pn ++ pins, p.1 ≠ a := by
  refine ⟨?_, Nat.ne_of_gt (Nat.lt_of_lt_of_le I.lt h), fun x c e => ?_, fun p hp => ?_⟩
  · cases e : X.s_0.heap.get? a with
    | none => rfl
    | some o => exact absurd (Nat.lt_of_lt_of_le (Heap.lt_size e) (Nat.le_trans I.sz h)) (Nat.lt_irrefl _)
  · obtain ⟨v, o, ho, _⟩ := I.cell x c e
    exact Nat.ne_of_lt (Nat.lt_of_lt_of_le (Heap.lt_size ho) h)
  · exact Nat.ne_of_lt (Nat.lt_of_lt_of_le (Heap.lt_size (I.pin p hp).1) h)
/-- the dict of a new exception -/
theorem relO_one {f : Str} {y : V} {u : Value} (ry : RelV y u) (g : Str) : RelO (([(f, y)] : List (Str × V)).lookup g) (if g = f then some u else none) := relO_put (fs := []) (mA := fun _ => none) ry (fun _ => True.intro) g
/-- C(e), to be raised: the exception is not known, its dict is -/
def tMkV (C : Addr) (te : TE) : L2.St → Hp → XK → Prop := fun σ H Q => te σ H fun y H1 => ∀ dx, H1 dx = none → Q (.ref C) (some dx) (upd H1 dx (.xd [("value", y)]))
/-- C(e), a value -/
def tMeV (C : Addr) (te : TE) : TE := fun σ H Q => te σ H fun y H1 => ∀ a dx, H1 a = none → H1 dx = none → dx ≠ a → Q (.ref a) (upd (upd H1 dx (.xd [("value", y)])) a (ErO a (.ref C) (some dx)))
section
variable {X : Cx} {C D f : Addr} {x : Str} {e : Expr} {te : TE} {p pos : Pos}
theorem pmk_me (M : ErC X.prog X.K X.mg D f) (T : MeC X.K C D f) (hr : Room 2 X.A) (hg : Gl X x) (hm : X.mg x = some (.ref C)) (he : PE X e te)
    (hdb : (x == ("__debug__" : Str)) = false := by decide) (hs : starEach [e] X.env = [(false, eval e X.env)] := by rfl) : PMk X (.Call (.Name x p) [e] [] pos) (tMkV C te) := by
  intro pins s σ H Q I h
  refine wpAny_Call_Name_kw (ld_glob I hg hm ?_ hdb)
  refine PySem.W.callWith_K (h₀ := X.base) I.ok.mod.kin T.o.kC ?_ hs rfl
  rw [hs]
  show wpAny _ _ (spliced [(false, eval e X.env)]) _ _ s
  refine Calls.spliced_cons (thn (he.run pins s σ H _ I h) fun u s1 ⟨y, H1, I1, ry, q1⟩ => ?_)
  refine Calls.spliced_nil ⟨I1.kIn, ?_⟩
  refine me_make M T I1 hr fun a dx h' tk t1 k an dn dne ha hn => ?_
  obtain ⟨G, g1, g2⟩ := restrict h' fun b => decide (b ≠ a)
  have gk : ∀ b, b ≠ a → G.get? b = h'.get? b := fun b hb => g1 b (decide_eq_true hb)
  have ge : G.get? a = none := g2 a (by simp)
  have nd : H1 dx = none := I1.hok.fresh dn
  have na : H1 a = none := I1.hok.fresh an
  have J : Inv X pins σ (upd H1 dx (.xd [("value", y)])) { s1 with heap := G, toks := tk } := by
    refine I1.laid (a := dx) (o := .xd [("value", y)]) (fun b o z => ?_) dn ⟨_, hn.at fun o z => (gk dx dne).trans z, relO_one ry⟩
    rw [gk b (Nat.ne_of_lt (Nat.lt_of_lt_of_le (Heap.lt_size z) an))]
    exact k b o z
  refine ⟨a, _, _, { s1 with heap := G, toks := tk }, _, .ref C, some dx, rfl, J, fun b o z => ?_, ge, ha, ⟨rfl, rfl⟩, rfl, rfl, ?_, rfl, I1.bare, raises_own T.o.exC T.o.tyC, q1 dx nd⟩
  · by_cases hb : b = a
    · rw [hb] at z
      exact absurd (z.symm.trans ge) (by simp)
    · rw [gk b hb] at z
      exact z
  · rw [upd_ne (Ne.symm dne)]
    exact na
theorem pe_me (M : ErC X.prog X.K X.mg D f) (T : MeC X.K C D f) (hr : Room 2 X.A) (hg : Gl X x) (hm : X.mg x = some (.ref C)) (he : PE X e te)
    (hdb : (x == ("__debug__" : Str)) = false := by decide) (hs : starEach [e] X.env = [(false, eval e X.env)] := by rfl) : PE X (.Call (.Name x p) [e] [] pos) (tMeV C te) := by
  refine ⟨fun pins s σ H Q I h => ?_⟩
  refine wpAny_Call_Name_kw (ld_glob I hg hm ?_ hdb)
  refine PySem.W.callWith_K (h₀ := X.base) I.ok.mod.kin T.o.kC ?_ hs rfl
  rw [hs]
  show wpAny _ _ (spliced [(false, eval e X.env)]) _ _ s
  refine Calls.spliced_cons (thn (he.run pins s σ H _ I h) fun u s1 ⟨y, H1, I1, ry, q1⟩ => ?_)
  refine Calls.spliced_nil ⟨I1.kIn, ?_⟩
  refine me_make M T I1 hr fun a dx h' tk t1 k an dn dne ha hn => ?_
  have nd : H1 dx = none := I1.hok.fresh dn
  have na : H1 a = none := I1.hok.fresh an
  have I2 : Inv X pins σ (upd H1 dx (.xd [("value", y)])) { s1 with heap := h', toks := tk } := I1.laid (a := dx) (o := .xd [("value", y)]) k dn ⟨_, hn, relO_one ry⟩
  obtain ⟨f0, f1, f2, f3⟩ := Inv.fresh_of I1 an
  exact ⟨.ref a, _, Inv.known I2 (by rw [upd_ne (Ne.symm dne)]; exact na) f0 f1 f2 f3 (erO_ok ha rfl rfl rfl), rfl, q1 a dx na nd dne⟩
end
/-! ### try: body, except x as n: suite, the exception known in the suite and behind it -/
section
variable {X : Cx} {pins : List (Addr × Obj)} {σ : L2.St} {H : Hp} {s : Shared}
theorem Inv.toSuite (I : Inv X pins σ H s) (a : Addr) : Inv (X.suite a (X.pn ++ pins)) [] σ H s :=
  ⟨I.ok.suite _ _, I.os, I.bare, I.base, I.loc, I.cell, I.free, I.freeC, fun p hp => I.pin p (by rw [List.append_nil] at hp; exact hp), I.hok, I.len⟩
theorem Inv.ofSuite {a : Addr} {pn' : List (Addr × Obj)} (I : Inv (X.suite a (X.pn ++ pins)) pn' σ H s) (ok : X.Ok) : Inv X pins σ H s :=
  ⟨ok, I.os, I.bare, I.base, I.loc, I.cell, I.free, I.freeC, fun p hp => I.pin p (List.mem_append_left _ hp), I.hok, I.len⟩
end
/-- what the clause wishes of an exception of the body: slot i is n's -/
def wAk (K : PySem.W.Frag) (c : Value) (i : Nat) (ts : TS) (Wout : WX) (D : Ends) : WX := fun cls d σ H =>
  ∃ b, PySem.W.exmOne K cls c = some b ∧ (b = true → ∀ a, H a = none → ts { nx := fun σ' H' => D.nx (σ'.set i none) H', rt := D.rt, bk := fun σ' H' => D.bk (σ'.set i none) H', ct := fun σ' H' => D.ct (σ'.set i none) H' } (σ.set i (some (.ref a))) (upd H a (ErO a cls d))) ∧
    (b = false → Wout cls d σ H)
section
variable {X : Cx} {x n : Str} {c : Value} {i : Nat} {body suite : List Stmt} {b₀ : Stmt} {np pos pos' : Pos} {tb : WX → TS} {ts : TS} {Wout : WX}
theorem ps_try_keep (hs : X.stack = X.env :: X.outer) (hf : X.env.frame = some X.env.locals) (hex : X.ex = []) (hN : X.N.Nodup) (hi : X.N[i]? = some n) (hln : X.env.kindOf n = some .local) (hc : Names X x c) (tk : Takes X Wout)
    (hb : ∀ (W : WX) (pn : List (Addr × Obj)) (xe : Value → Shared → Prop), Takes (X.tr pn xe) W → PassesOwn (model X.prog X.w) X.A X.env xe → PSs (X.tr pn xe) body (tb W))
    (hsu : ∀ (a : Addr) (pn : List (Addr × Obj)), PSs (X.suite a pn) (b₀ :: suite) ts) :
    PS X (.Try body [.ExceptHandler (some (.Name x np)) (some n) (b₀ :: suite) pos'] [] [] pos) (fun D σ H => tb (wAk X.K c i ts Wout D) D σ H) := by
  refine ⟨fun pins s σ H D I h => ?_⟩
  have ok := I.ok
  have hfr : X.A.frames = some (X.env :: X.outer) := by rw [ok.frames, hs]
  have hloc : Loc X.env.scope n := .inl hln
  refine wpAny_Try_except ?_
  refine wpAny_mono ((hb (wAk X.K c i ts Wout D) (X.pn ++ pins) (fun e s₁ => wpAny (model X.prog X.w) X.A (noteFrame e X.env) (fun _ s₂ => wpAny (model X.prog X.w) X.A (setFlight e none) (fun _ s₃ =>
    wpAny (model X.prog X.w) X.A (handleBy e X.env [.ExceptHandler (some (.Name x np)) (some n) (b₀ :: suite) pos']) (SP X pins D) X.xe s₃) X.xe s₂) X.xe s₁) (fun u s' xx => ?_) PassesOwn.looking).run [] s σ H D (I.toTry _) h) (fun f s1 hsp => ?_) (fun e s1 he => he)
  · obtain ⟨a, B, sI, pins', σ', H', cls, d, rfl, J', nb, up, sky, na, os, ag, b, hb1, hyes, hno⟩ := xx
    have J : Inv X pins σ' H' sI := J'.ofTry ok
    have sky' : Sky B (X.env :: X.outer) a (Zc cls d) X.env.locals s'.heap := by rw [← hs]; exact sky
    show wpAny (model X.prog X.w) X.A (noteFrame (.ref a) X.env) _ _ _
    refine Sky.land Zc.steady hfr hf sky' fun h3 fl3 up3 => ?_
    have J3 : Inv X pins σ' H' { s' with heap := h3 } := J.landed nb fl3.1 (up.trans up3) os ag
    obtain ⟨oe3, vs3, he3, hz3, hd3⟩ := fl3.there
    have notFr : ∀ {h : Heap} {o : Obj} {vs : Array Value}, h.FunFrames B (X.env :: X.outer) → h.get? a = some o → o.data = .fields vs → a ∉ frs (X.env :: X.outer) := fun {h o vs} ff e dd hm => by
      obtain ⟨_, o', e', hnf⟩ := ff.mem hm
      rw [e] at e'; cases e'
      exact hnf _ dd
    have nfr := notFr fl3.2.2.1 he3 hd3
    have nI : ∀ o, sI.heap.get? a ≠ some o := fun o e => by
      have z := nb a o e (by rw [hs]; exact nfr)
      rw [fl3.2.1] at z
      cases z
    have nL : a ≠ X.env.locals := fun z => nfr (List.mem_filterMap.mpr ⟨X.env, List.mem_cons_self, by rw [hf, z]⟩)
    have n0 : X.s_0.heap.get? a = none := by
      cases e : X.s_0.heap.get? a with
      | none => rfl
      | some o =>
        obtain ⟨o', z⟩ := J.base.there a o e (by rw [hex]; simp)
        exact absurd z (nI o')
    have nC : ∀ y c', X.env.cells.lookup y = some c' → c' ≠ a := fun y c' e z => by
      obtain ⟨v, o, ho, _⟩ := J.cell y c' e
      exact nI o (z ▸ ho)
    have nP : ∀ p ∈ X.pn ++ pins, p.1 ≠ a := fun p hp z => nI p.2 (z ▸ (J.pin p hp).1)
    refine wpAny_handleBy_cons (codeAny_handlers_test ?_) (by intro q; cases q)
    have LT : PySem.W.Looks (model X.prog X.w) h3 (typeOf (.ref a)) cls := fun A Q E s k q => wpAny_typeOf_ref (k _ _ he3) (by rw [hz3.1]; exact q)
    have LM := PySem.W.exm_one (M := model X.prog X.w) (J3.kIn) LT hb1
    have test : ∀ {Q : Value → Shared → Prop} {E : Value → Shared → Prop}, Q c { s' with heap := h3 } → wpAny (model X.prog X.w) (X.A.mark (some (.ref a))) (eval (.Name x np) X.env) Q E { s' with heap := h3 } := fun {Q E} q => by
      obtain ⟨hg, hdbg, hm | ⟨hm, hv, hnn⟩⟩ := hc
      · exact ld_glob (X := X.suite a (X.pn ++ pins)) (Inv.toSuite J3 a) hg hm q hdbg
      · exact ld_blt (X := X.suite a (X.pn ++ pins)) (Inv.toSuite J3 a) hg hm hv q hnn hdbg
    refine test (LM.here ?_)
    cases b with
    | true =>
      refine codeAny_handlers_suite_as ?_
      refine HandSPX.lands_againZ fl3 fun h4 fl4 up4 => ?_
      have J4 : Inv X pins σ' H' { s' with heap := h4 } := J.landed nb fl4.1 ((up.trans up3).trans up4) os ag
      obtain ⟨oe4, vs4, he4, hz4, hd4⟩ := fl4.there
      have J5 : Inv X pins σ' (upd H' a (ErO a cls d)) { s' with heap := h4 } := Inv.known J4 na n0 nL nC nP (erO_ok he4 hz4.1 hz4.2 hd4)
      have S4 := Inv.toSuite J5 a
      refine store_ok (X := X.suite a (X.pn ++ pins)) (v := .ref a) S4 hN hi hloc rfl (fun s5 S5 => ?_) (.inr hln)
      refine wpAny_mono ((hsu a (X.pn ++ pins)).run [] s5 _ _ _ S5 (hyes rfl a na)) (fun f s6 hsp => ?_) (fun _ _ z => False.elim z)
      have end_ : ∀ {σ6 : L2.St} {H6 : Hp} {Q : Shared → Prop}, Inv (X.suite a (X.pn ++ pins)) [] σ6 H6 s6 → (∀ s7, Inv X pins (σ6.set i none) H6 s7 → Q s7) →
          wpAny (model X.prog X.w) X.A (do bindName X.env n .none; unbindBehindTheSuite X.env n pos') (fun _ s7 => Q s7) X.xe s6 := fun {σ6 H6 Q} S6 hq => gone_ok (Inv.ofSuite S6 ok) hN hi hln hq
      cases f with
      | next =>
        obtain ⟨σ6, H6, S6, q6⟩ := hsp
        exact end_ S6 fun s7 J7 => ⟨_, _, J7, q6⟩
      | brk =>
        obtain ⟨σ6, H6, S6, q6⟩ := hsp
        exact end_ S6 fun s7 J7 => ⟨_, _, J7, q6⟩
      | cont =>
        obtain ⟨σ6, H6, S6, q6⟩ := hsp
        exact end_ S6 fun s7 J7 => ⟨_, _, J7, q6⟩
      | ret u =>
        obtain ⟨v6, σ6, H6, S6, r6, q6⟩ := hsp
        exact end_ S6 fun s7 J7 => ⟨_, _, _, J7, r6, q6⟩
    | false =>
      show wpAny _ X.A (handleBy (.ref a) X.env []) _ _ _
      refine wpAny_handleBy_nil ?_
      obtain ⟨k1, k2, k3, oe, vs, T, oT, ts', he, hz, hd, h1, hr⟩ := id fl3
      unfold PySem.passOn
      refine wpAny_bind (wpAny_field he hd h1 ?_)
      rw [if_neg (show ¬ ((Value.ref T == Value.none) = true) from by simp)]
      have fin : wpAny (model X.prog X.w) X.A (setFlight (.ref a) X.env.frame) (fun _ s4 => wpAny (model X.prog X.w) X.A (throw (.ref a) : Sem Flow) (SP X pins D) X.xe s4) X.xe { s' with heap := h3 } := by
        rw [hf]
        refine HandSPX.setFlight_upZ fl3 fun h4 hh4 up4 => wpAny_throw (tk _ _ ?_)
        exact ⟨a, B, sI, pins, σ', H', cls, d, rfl, J, nb, (up.trans up3).trans up4, .inr (.inr (by rw [hs]; exact hh4)), na, os, ag, hno rfl⟩
      first
        | exact wpAny_bind (wpAny_pure (wpAny_bind fin))
        | exact wpAny_bind fin
  · cases f with
    | next =>
      obtain ⟨σ', H', J', q⟩ := hsp
      exact wpAny_execs_nil ⟨σ', H', J'.ofTry ok, q⟩
    | brk =>
      obtain ⟨σ', H', J', q⟩ := hsp
      exact ⟨σ', H', J'.ofTry ok, q⟩
    | cont =>
      obtain ⟨σ', H', J', q⟩ := hsp
      exact ⟨σ', H', J'.ofTry ok, q⟩
    | ret u =>
      obtain ⟨v, σ', H', J', r, q⟩ := hsp
      exact ⟨v, σ', H', J'.ofTry ok, r, q⟩
end
end WU
namespace PySem.W
open PySem PySem.Spec PySem.Calls PyProof.Rows
section
variable {prog : Program} {w : World} {A : Around} {E : Value → Shared → Prop} {s : Shared} {K : Frag} {x D : Addr} {ox : Obj} {od : Option Obj}
theorem er_findObj {C : Addr} {name : Str} {a g : Value} (hc : (clsIn K C).isSome = true) (ha : findIn K (.ref C) name = some (some a)) (hg : specialIn K a "__get__" = some (some g)) (ht : takesIn K a = some true) : findObj K C od name = some (.bind g a) := by
  obtain ⟨cd, hc⟩ := Option.isSome_iff_exists.mp hc
  unfold findObj
  rw [hc, Option.bind_some, ha, Option.bind_some]
  simp [hg, ht]
theorem er_class {Q : Option Value → Shared → Prop} (C : L2.ExcC K D) (X : K.In s.heap) (I : InstAt s.heap x ox D od) (h : Q (some (.ref D)) { s with toks := s.toks + 1 }) : wpAny (model prog w) A (getAttr? (.ref x) "__class__") Q E s := by
  have hf : findObj K D od "__class__" = some (.bind (.builtin "getset_descriptor.__get__") (.builtin "object.__class__")) := er_findObj (by obtain ⟨cd, hc, _⟩ := any_some C.hd; rw [hc]; rfl) C.ha C.hn C.ht
  obtain ⟨hp, g, d, t, os⟩ := s
  have L0 := I.type (M := model prog w)
  have L1 := looks_findIn (M := model prog w) X C.hg
  have L2 := looks_findIn (M := model prog w) X C.hk
  have L3 := looks_find (M := model prog w) X I hf
  have sub : Looks (model prog w) hp (isInstance (.ref x) (.type "BaseException")) true := L0.andThen (looks_subIn X C.hs)
  have hx0 : (false && onTheHeap (Value.builtin "BaseException.__getattribute__")) = false := rfl
  have hx2 : (Value.builtin "BaseException.__getattribute__" == Value.builtin "object.__getattribute__") = false := by decide +kernel
  have hx1 : (onTheHeap (Value.ref D) && Value.builtin "BaseException.__getattribute__" == Value.builtin "object.__getattribute__") = false := by rw [hx2]; rfl
  unfold getAttr? getAttrBy? getAttrBy
  refine wpAny_bind (wpAny_mkText (wpAny_bind (wpAny_attempt (wpAny_holding (wpAny_bind (L0.at (wpAny_bind (L1.at ?_))))))))
  show wpAny _ _ (if (onTheHeap (Value.ref D) && Value.builtin "BaseException.__getattribute__" == Value.builtin "object.__getattribute__") = true then _ else _) _ _ _
  rw [hx1, if_neg Bool.false_ne_true]
  unfold getAttrByItsOwn hookBefore
  refine wpAny_bind ?_
  rw [if_pos (show onTheHeap (Value.ref D) = true from rfl)]
  refine L2.at ?_
  refine wpAny_bind (wpAny_attempt (wpAny_holding ?_))
  unfold callGetattribute
  rw [hx0, if_neg Bool.false_ne_true]
  unfold boundAndCalled
  rw [PySem.F.excAttr_ValueError.ga.bind (.ref x)]
  refine wpAny_bind (wpAny_pure ?_)
  show wpAny _ _ (call (.builtin "BaseException.__getattribute__") [.ref x, .str "__class__" t]) _ _ _
  refine wpAny_call (codeAny_call_builtin PySem.F.excAttr_ValueError.ga.plain PySem.F.entry_bexc_ga ?_)
  refine @check_slot (model prog w) _ _ ⟨hp, g, d, t + 1, os⟩ "BaseException.__getattribute__" "BaseException" "__getattribute__" (.ref x) [.str "__class__" t] [] _ (by decide +kernel) (by decide +kernel) sub (PySem.F.args_bexc_ga (.ref x) (.str "__class__" t)) ?_
  unfold Builtin.«object.__getattribute__»
  refine wpAny_bind (wpAny_of_eq (a := ((Value.ref x : Value), [Value.str "__class__" t])) (by first | rfl | (simp only [slotArgs]; rfl)) ?_)
  refine wpAny_bind (wpAny_pure (wpAny_bind (L0.at (wpAny_bind (L3.at ?_)))))
  show wpAny _ _ (holding [Value.builtin "object.__class__"] (call (.builtin "getset_descriptor.__get__") [.builtin "object.__class__", .ref x, .ref D]) >>= ret) _ _ _
  refine wpAny_bind (wpAny_holding (wpAny_call (class_get (s := ⟨hp, g, d, t + 1, os⟩) (ox := ox) (od := od) X I C.hm ?_)))
  refine wpAny_pure ?_
  show wpAny _ _ (handedOut (.ref D)) _ _ _
  rw [handedOut_of (v := .ref D) rfl]
  first
    | exact wpAny_pure (wpAny_pure h)
    | exact wpAny_pure h
    | exact wpAny_pure (wpAny_bind (wpAny_pure (wpAny_pure h)))
theorem er_kitx (C : L2.ExcC K D) : KitX K (.ref x) (.ref D) (fun h => ∃ ox od, InstAt h x ox D od) where
  ty := fun _ _ _ ⟨_, _, I⟩ => I.type
  it := fun _ _ X _ => by
    obtain ⟨cdD, hcD, _⟩ := any_some C.hd
    unfold clsIn at hcD
    split at hcD
    · rename_i c' d' cd' sl' ho
      intro A' Q' E' s' k q
      unfold isType loadHead
      exact wpAny_bind (wpAny_loadPart (k _ _ (X _ _ ho)) (wpAny_pure q))
    · cases hcD
  ne := fun h tp dd its n sl X htp => by
    obtain ⟨cdD, hcD, _⟩ := any_some C.hd
    refine Bool.eq_false_iff.mpr fun q => ?_
    have e : D = tp := Value.ref.inj (beq_iff_eq.mp q)
    subst e
    unfold clsIn at hcD
    split at hcD
    · rename_i c' d' cd' sl' ho
      have z := (X _ _ ho).symm.trans htp
      cases z
    · cases hcD
  ca := fun X ⟨_, _, I⟩ k => er_class C X I k
end
end PySem.W
namespace WU
open PySem PySem.Spec PyProof.Rows L2
/-- at a: an exception with its dict -/
theorem er_inst {X : Cx} {pins : List (Addr × Obj)} {σ : L2.St} {H : Hp} {s : Shared} {a C dx : Addr} {fs : List (Str × V)} (I : Inv X pins σ H s) (e : H a = some (ErO a (.ref C) (some dx))) (ed : H dx = some (.xd fs)) :
    ∃ (o od : Obj) (mA : Str → Option Value), PySem.W.InstAt s.heap a o C (some od) ∧ (∀ g, PySem.W.lookIn g od = some (mA g)) ∧ ∀ g, RelO (fs.lookup g) (mA g) := by
  obtain ⟨o, vs, h1, h2, h3, h4⟩ := erO_at I.hok e
  have hx : ObjOk X.prog X.w H s.heap dx (.xd fs) := I.hok dx _ ed
  obtain ⟨mA, hns, hr⟩ := hx
  obtain ⟨od, ho, hl⟩ := lookIn_ns hns
  exact ⟨o, od, mA, ⟨h1, h2, by unfold PySem.W.notCls; rw [h4] <;> rfl, by rw [h3]; exact ho⟩, hl, hr⟩
/-- v is an error of the class C that keeps y -/
def Er (C : Addr) (H : Hp) (v y : V) : Prop := ∃ a dx, v = .ref a ∧ H a = some (ErO a (.ref C) (some dx)) ∧ H dx = some (.xd [("value", y)])
theorem Er.ext {C : Addr} {H H' : Hp} {v y : V} (x : Er C H v y) (e : Evl.Ex H H') : Er C H' v y := by
  obtain ⟨a, dx, h1, h2, h3⟩ := x
  exact ⟨a, dx, h1, e _ _ h2, e _ _ h3⟩
theorem Er.keep {C p : Addr} {H H' : Hp} {v y : V} {m : Nat} (x : Er C H v y) (k : Keep p H H') (j : Jar H p m) : Er C H' v y := by
  obtain ⟨a, dx, h1, h2, h3⟩ := x
  exact ⟨a, dx, h1, k.at j h2 (fun _ => erO_ne), k.at j h3 (fun _ z => nomatch z)⟩
/-- what an error class says of its instances -/
structure ErK (K : PySem.W.Frag) (C : Addr) : Prop where
  is : ExcC K C
  v : PySem.W.findIn K (.ref C) "value" = some none
/-- e.value -/
def tEv (K : PySem.W.Frag) (te : TE) : TE := fun σ H Q => te σ H fun x H1 => ∃ C y, Er C H1 x y ∧ ErK K C ∧ Q y H1
theorem pe_ev {X : Cx} {e : Expr} {te : TE} {pos : Pos} (he : PE X e te) (hb : attributeBase e "value" X.env (eval e X.env) = eval e X.env := by rfl) : PE X (.Attribute e "value" pos) (tEv X.K te) := by
  refine ⟨fun pins s σ H Q I h => ?_⟩
  refine attr_of hb (thn (he.run pins s σ H _ I h) fun u s1 hh => ?_)
  obtain ⟨x, H1, I1, rx, C, y, ⟨a, dx, ex, ea, ed⟩, T, q⟩ := hh
  subst ex
  obtain rfl : u = Value.ref a := rx
  obtain ⟨o, od, mA, J, hl, hr⟩ := er_inst I1 ea ed
  obtain ⟨v, hv, rv⟩ := RelO.some_of (v := y) (o := mA "value") (by have z := hr "value"; exact z)
  exact HandSPX.exc_get I1.kIn J T.is.hg T.is.hk T.is.hs (PySem.W.findObj_own T.is.hd T.v rfl (by rw [hl, hv])) (handed_of rv) ⟨y, H1, I1.tok _, rv, q⟩
/-- a value's type, errors among them -/
inductive TyZ (K : PySem.W.Frag) (H : Hp) : V → Value → Prop where
  | w {v : V} {t : Value} (h : TyW K H v t) : TyZ K H v t
  | er {C : Addr} {v y : V} (h : Er C H v y) (c : ErK K C) : TyZ K H v (.ref C)
theorem kit_ofZ {X : Cx} {pins : List (Addr × Obj)} {σ : L2.St} {H : Hp} {s : Shared} {x : V} {u t : Value} (I : Inv X pins σ H s) (rx : RelV x u) (ty : TyZ X.K H x t) : ∃ P : Heap → Prop, PySem.W.KitX X.K u t P ∧ P s.heap ∧ u ≠ .builtin "__main__.__loader__#opaque" := by
  cases ty with
  | w h => exact kit_ofW I rx h
  | er h c =>
    rename_i C y
    obtain ⟨a, dx, ex, ea, ed⟩ := h
    subst ex
    cases (show u = Value.ref a from rx)
    obtain ⟨o, od, mA, J, hl, hr⟩ := er_inst I ea ed
    exact ⟨_, PySem.W.er_kitx c.is, ⟨o, some od, J⟩, fun z => nomatch z⟩
/-- isinstance(x, c), x any value or an error -/
def rIsZ (K : PySem.W.Frag) : List V → Hp → VK → Prop := fun xs H Q => ∃ (x c : V) (t u : Value) (b : Bool), xs = [x, c] ∧ ClsV c u ∧ TyZ K H x t ∧ PySem.W.kitOne K t u = some b ∧ Q (.bl b) H
theorem call_isZ {X : Cx} : CallR X (.builtin "isinstance") (rIsZ X.K) := by
  intro pins s σ H xs us Q I r h
  obtain ⟨x, c, t, u, b, rfl, k, ty, e, q⟩ := h
  obtain ⟨u1, u2, rfl, r1, r2⟩ := vals2 r
  have e2 := k.eq r2
  subst e2
  obtain ⟨P, Z, p, hx⟩ := kit_ofZ I r1 ty
  exact PySem.W.kia_one Z I.kIn p e hx fun tk => ⟨.bl b, H, I.tok tk, rfl, q⟩
/-! ### calls that may let an exception out -/
/-- nothing is let out of what lets nothing out -/
theorem FnOk.wide {P : Program} {w : World} {K : PySem.W.Frag} {mg : Str → Option Value} {base : Heap} {CX : CXT} {k : Nat} {f : Addr} {fd : FuncData} {ps : List Str} {sp : Sp} (F : FnOk P w K mg base CX0 k f fd ps sp) : FnOk P w K mg base CX k f fd ps sp :=
  ⟨F.len, fun A outer s H args us vs Q E hr e0 hb r h => codeAny_mono (F.run A outer s H args us vs Q E hr e0 hb r h) fun r s' q => by
    cases r with
    | error e => exact (show False from q).elim
    | ok fl => cases fl <;> exact q⟩
theorem passN {X : Cx} : Passes (L2.CX X.prog X.w) X (fun _ _ _ => False) := fun pins σ H s e s' I ⟨_, _, _, _, _, _, _, _, _, _, _, _, z⟩ => z.elim
end WU

/-! repr of values among which instances of an own class with an own __repr__ stand: the room for frames is handed on beside the room for units. -/
namespace PySem
open Builtin
theorem wt_tuple_repr (A : Around) (args : Args) : (A.under (.builtin "tuple.__repr__" args)).depth ≤ A.depth + 1 := by
  show A.depth + (Code.builtin "tuple.__repr__" args).weight ≤ _
  have : (Code.builtin "tuple.__repr__" args).weight ≤ 1 := by first | decide | (simp [Code.weight, Code.isCreation, Code.isGuard, Code.isCaller, Code.frames, Code.isFrame, guardIds])
  omega
theorem wt_tuple_repr_under (A : Around) (args : Args) : (A.under (.builtin "tuple.__repr__.under" args)).depth ≤ A.depth + 1 := by
  show A.depth + (Code.builtin "tuple.__repr__.under" args).weight ≤ _
  have : (Code.builtin "tuple.__repr__.under" args).weight ≤ 1 := by first | decide | (simp [Code.weight, Code.isCreation, Code.isGuard, Code.isCaller, Code.frames, Code.isFrame, guardIds])
  omega
theorem wt_list_loop (A : Around) (args : Args) : (A.under (.builtin "list.__repr__.loop" args)).depth ≤ A.depth + 1 := by
  show A.depth + (Code.builtin "list.__repr__.loop" args).weight ≤ _
  have : (Code.builtin "list.__repr__.loop" args).weight ≤ 1 := by first | decide | (simp [Code.weight, Code.isCreation, Code.isGuard, Code.isCaller, Code.frames, Code.isFrame, guardIds])
  omega
/-- x's text is t, whoever asks: as the library's, with room for the frames of own defs -/
def ReprD (prog : Program) (w : World) (as : List Addr) (h₀ : Heap) (d : Nat) (x : Value) (t : Str) : Prop :=
  ∀ (base : Nat), base + t.length ≤ sizeLine → ∀ (A : Around) (g : List Code) (E : Value → Shared → Prop) (s : Shared) (Q : Str → Shared → Prop), A.guards = some g → (∀ b ∈ as, Clear g b) → A.units + d < cLine → A.depth + d < recursionLimit →
    (∀ b o, h₀.get? b = some o → s.heap.get? b = some o) → (∀ h' tk, (∀ b o, s.heap.get? b = some o → h'.get? b = some o) → Q t { s with heap := h', toks := tk }) → wpAny (model prog w) A (pyReprUnder base x) Q E s
section
variable {prog : Program} {w : World}
theorem ReprD.of_is {x : Value} {t : Str} (h : ReprIs prog w x t) (as : List Addr) (h₀ : Heap) (d : Nat) : ReprD prog w as h₀ d x t :=
  fun base hb A _ E s Q _ _ _ _ _ hQ => h base hb A E s Q fun tk => hQ s.heap tk fun _ _ e => e
theorem ReprD.wide {as as' : List Addr} {h₀ : Heap} {d d' : Nat} {x : Value} {t : Str} (h : ReprD prog w as h₀ d x t) (hsub : ∀ b ∈ as, b ∈ as') (hd : d ≤ d') : ReprD prog w as' h₀ d' x t :=
  fun base hz A g E s Q hg hcl hu hp hk hQ => h base hz A g E s Q hg (fun b hb => hcl b (hsub b hb)) (by omega) (by omega) hk hQ
inductive ReprAllD (prog : Program) (w : World) (as : List Addr) (h₀ : Heap) (d : Nat) : List Value → List Str → Prop
  | nil : ReprAllD prog w as h₀ d [] []
  | cons {x : Value} {t : Str} {l : List Value} {ts : List Str} : ReprD prog w as h₀ d x t → ReprAllD prog w as h₀ d l ts → ReprAllD prog w as h₀ d (x :: l) (t :: ts)
theorem ReprAllD.wide {as as' : List Addr} {h₀ : Heap} {d d' : Nat} (hsub : ∀ b ∈ as, b ∈ as') (hd : d ≤ d') : ∀ {l : List Value} {ts : List Str}, ReprAllD prog w as h₀ d l ts → ReprAllD prog w as' h₀ d' l ts
  | _, _, .nil => .nil
  | _, _, .cons a b => .cons (a.wide hsub hd) (b.wide hsub hd)
theorem ReprAllD.len {as : List Addr} {h₀ : Heap} {d : Nat} : ∀ {l : List Value} {ts : List Str}, ReprAllD prog w as h₀ d l ts → ts.length = l.length
  | _, _, .nil => rfl
  | _, _, .cons _ h => by simp [h.len]
theorem ReprAllD.item {as : List Addr} {h₀ : Heap} {d : Nat} : ∀ {l : List Value} {ts : List Str}, ReprAllD prog w as h₀ d l ts → ∀ (i : Nat) (y : Value), l[i]? = some y → ∃ t, ts[i]? = some t ∧ ReprD prog w as h₀ d y t
  | _, _, .nil, i, y, e => by simp at e
  | _, _, .cons (t := t) a b, 0, y, e => ⟨t, rfl, by cases (Option.some.inj e); exact a⟩
  | _, _, .cons a b, i + 1, y, e => b.item i y (by simpa using e)
section
variable {A : Around} {E : Value → Shared → Prop} {as : List Addr} {h₀ : Heap} {d : Nat} {g : List Code}
theorem tupFoldD (hg : A.guards = some g) (hcl : ∀ b ∈ as, Clear g b) (hu : A.units + d < cLine) (hp : A.depth + d < recursionLimit) : ∀ (l : List Value) (ts : List Str) (acc : Array Str) (n : Nat) (s : Shared) (Q : (Array Str × Nat) → Shared → Prop), ReprAllD prog w as h₀ d l ts → n + piled ts ≤ sizeLine →
    (∀ b o, h₀.get? b = some o → s.heap.get? b = some o) → (∀ h' tk, (∀ b o, s.heap.get? b = some o → h'.get? b = some o) → Q ⟨acc ++ ts.toArray, n + piled ts⟩ { s with heap := h', toks := tk }) →
    wpAny (model prog w) A (forIn l (⟨acc, n⟩ : (Array Str × Nat)) tupBody) Q E s := by
  intro l
  induction l with
  | nil =>
    intro ts acc n s Q hT _ _ h
    cases hT
    have h0 := h s.heap s.toks fun _ _ e => e
    simp only [List.forIn_nil]
    exact wpAny_pure (by simpa [piled] using h0)
  | cons x l ih =>
    intro ts acc n s Q hT hn hk0 h
    cases hT with
    | cons hx hl =>
      rename_i t ts'
      rw [piled_cons] at hn
      rw [List.forIn_cons]
      refine wpAny_bind (wpAny_bind (hx (n + 1) (by omega) _ _ _ _ _ hg hcl hu hp hk0 fun h' tk hkp => wpAny_pure ?_))
      refine ih ts' (acc.push t) (n + (t.length + 2)) _ Q hl (by omega) (fun b o e => hkp _ _ (hk0 _ _ e)) fun h'' tk' hk2 => ?_
      have h1 := h h'' tk' fun b o e => hk2 _ _ (hkp _ _ e)
      have e : n + piled (t :: ts') = n + (t.length + 2) + piled ts' := by rw [piled_cons]; omega
      rw [e] at h1
      simpa using h1
end
section
variable {as : List Addr} {h₀ : Heap} {d : Nat} {a : Addr} {o : Obj} {items : Array Value} {n : Nat} {ts : List Str} {A : Around} {g : List Code} {s : Shared}
theorem tuple_reprAtD (ha : h₀.get? a = some o) (hc : o.cls = .type "tuple") (hd : o.data = .seq items n) (hna : a ∉ as) (hT : ReprAllD prog w as h₀ d items.toList ts) {R : Result → Shared → Prop} {base : Nat} {id : String} {rest : List Value}
    (hcg : (Code.builtin id ⟨.ref a :: rest, []⟩).isGuard = true) (hcu : (A.under (.builtin id ⟨.ref a :: rest, []⟩)).units = A.units + 1) (hcd : (A.under (.builtin id ⟨.ref a :: rest, []⟩)).depth ≤ A.depth + 1)
    (hg : A.guards = some g) (hcl : ∀ b ∈ a :: as, Clear g b) (hu : A.units + (d + 1) < cLine) (hp : A.depth + (d + 1) < recursionLimit) (hk0 : ∀ b o, h₀.get? b = some o → s.heap.get? b = some o)
    (hR : ∀ h' u tk, (∀ b o, s.heap.get? b = some o → h'.get? b = some o) → R (.ok (.ret (.str (tupleText ts) u))) { s with heap := h', toks := tk }) (hsz : base + (tupleText ts).length ≤ sizeLine) :
    wpOwn (model prog w) A (.builtin id ⟨.ref a :: rest, []⟩) (Builtin.tupleReprAt base ⟨[.ref a], []⟩) (fun fin s' => match fin with | .done f => R (.ok f) s' | .again c' => c'.quiet = true ∧ codeAny (model prog w) A c' R s') (fun e s' => R (.error e) s') s := by
  have hca : Clear g a := hcl a (.head _)
  have hlen : ts.length = items.size := by simpa using hT.len
  have hpl := piled_le_tupleText ts
  have hsz0 : (tupleText ts).length ≤ sizeLine := by omega
  rw [tuple_repr_tree, tupleReprUnderWay_eq]
  refine wpOwn_bind (wpOwn_stackTailAny hg (tupGuardF_off _) (tupGuardF_pos _) ?_)
  have hn : (g.any fun c => tupGuardF (.ref a) (c, default)) = false := by
    rw [List.any_eq_false]
    intro c hcm
    rw [tupGuardF_of_clear hca c hcm]
    exact Bool.false_ne_true
  rw [hn]
  refine wpOwn_of_wpAny ?_
  show wpAny _ _ (tupleReprRest base (.ref a)) _ _ s
  unfold tupleReprRest Builtin.Tuple.tupleItemsOf
  refine wpAny_bind (wpAny_bind (wpAny_seqItems (hk0 _ _ ha) hd (wpAny_pure ?_)))
  rw [← Array.forIn_toList]
  refine wpAny_bind (tupFoldD (guards_under_guard hcg hg) (fun b hb => (hcl b (.tail _ hb)).cons (a := a) fun e => hna (e ▸ hb)) (by rw [hcu]; omega) (by omega) _ ts _ _ _ _ hT (by omega) hk0 fun h' tk hkp => ?_)
  refine wpAny_bind (wpAny_mkStr (wpAny_pure ?_) (by simpa [tupleText, hlen] using hsz0))
  have h1 := hR h' tk (tk + 1) hkp
  simpa [tupleText, hlen] using h1
theorem call_tuple_reprD {E : Value → Shared → Prop} {Q : Value → Shared → Prop} (ha : h₀.get? a = some o) (hc : o.cls = .type "tuple") (hd : o.data = .seq items n) (hna : a ∉ as) (hT : ReprAllD prog w as h₀ d items.toList ts)
    (hg : A.guards = some g) (hcl : ∀ b ∈ a :: as, Clear g b) (hu : A.units + (d + 1) < cLine) (hp : A.depth + (d + 1) < recursionLimit) (hk0 : ∀ b o, h₀.get? b = some o → s.heap.get? b = some o)
    (hQ : ∀ h' u tk, (∀ b o, s.heap.get? b = some o → h'.get? b = some o) → Q (.str (tupleText ts) u) { s with heap := h', toks := tk }) (hsz : (tupleText ts).length ≤ sizeLine) :
    wpAny (model prog w) A (call (.builtin "tuple.__repr__") [.ref a]) Q E s :=
  wpAny_call (codeAny_call_builtin_own (Code.quiet_builtin _ (by decide +kernel)) F.entry_tuple_repr (F.slot_tuple_repr.check _ _ _ _ _ _ _ _ ⟨o, hk0 _ _ ha, hc⟩ (F.args_tuple_repr_1 _)
    (tuple_reprAtD (base := 0) (R := callEnd Q E) ha hc hd hna hT (isGuard_tuple_repr _) (units_under_tuple_repr _ _) (wt_tuple_repr _ _) hg hcl hu hp hk0 hQ (by omega))))
theorem ReprD.tuple (ha : h₀.get? a = some o) (hc : o.cls = .type "tuple") (hd : o.data = .seq items n) (hna : a ∉ as) (hT : ReprAllD prog w as h₀ d items.toList ts) : ReprD prog w (a :: as) h₀ (d + 1) (.ref a) (tupleText ts) := by
  intro base hb A g E s Q hg hcl hu hp hk0 hQ
  refine wpAny_pyReprUnder_ref (by omega) (wpAny_pyReprObjUnder_twin (twin := "tuple.__repr__.under") ⟨o, hk0 _ _ ha, hc⟩ F.slot_tuple_repr rfl (by omega) ?_)
  exact call_twin_own (F.quiet_tuple_repr_under _) F.entry_tuple_repr_under F.check_tuple_repr_under ⟨o, hk0 _ _ ha, hc⟩ F.slot_tuple_repr (F.args_tuple_repr_1 _)
    (tuple_reprAtD (R := callEnd _ E) ha hc hd hna hT (isGuard_tuple_repr_under _) (units_under_tuple_repr_under _ _) (wt_tuple_repr_under _ _) hg hcl hu hp hk0 (fun h' u tk hk => ⟨⟨_, _, rfl⟩, _, _, rfl, hQ h' tk hk⟩) hb)
end
section
open Builtin.List
variable {A : Around} {R : Result → Shared → Prop}
theorem list_loopD {a P : Addr} (hne : a ≠ P) {items : Array Value} {ts : List Str} {as : List Addr} {h₀ : Heap} {d base : Nat} {g : List Code} (hg : A.guards = some g) (hcl : ∀ b ∈ as, Clear g b) (hu : A.units + (d + 1) < cLine) (hp : A.depth + (d + 1) < recursionLimit) (hna : a ∉ as) (hPf : h₀.get? P = none) (hlen : ts.length = items.size)
    (hT : ∀ (i : Nat) (x : Value), items[i]? = some x → ∃ t, ts[i]? = some t ∧ ReprD prog w as h₀ d x t) (hsz : base + (listText ts).length ≤ sizeLine) :
    ∀ (k i : Nat) (s : Shared) (oa : Obj) (na : Nat) (acc : Array Value) (c : Nat) (done : List (Str × Tok)), items.size - i = k → i ≤ items.size → (∀ b o, h₀.get? b = some o → s.heap.get? b = some o) →
    s.heap.get? a = some oa → oa.data = .seq items na → s.heap.get? P = some { cls := .type "list", dict := none, data := .seq acc c, slots := #[] } → acc.toList = strValues done → done.map (·.1) = ts.take i →
    (∀ h' u tk, (∀ b o, b ≠ P → s.heap.get? b = some o → h'.get? b = some o) → R (.ok (.ret (.str (listText ts) u))) { s with heap := h', toks := tk }) →
    codeAny (model prog w) A (.builtin "list.__repr__.loop" ⟨[.ref a, rawInt i, .ref P, rawInt ((base + piled (ts.take i) : Nat) : Int)], []⟩) R s := by
  have hX : (listText ts).length = (textFrom 0 "[" ts).length + 1 := by
    show (textFrom 0 "[" ts ++ "]").length = _
    rw [strLen_append]; rfl
  have hL := textFrom_len ts 0 "["
  have hsz1 : items.size ≤ sizeLine := by
    have h1 := hL.1
    rw [if_neg (Nat.lt_irrefl 0)] at h1
    omega
  have hsz2 : ∀ t ∈ ts, t.length ≤ sizeLine := fun t ht => by
    have h2 := hL.2.1 t ht
    omega
  have hsz3 : (listText ts).length ≤ sizeLine := by omega
  have hp3 := piled_le_listText ts
  intro k
  induction k with
  | zero =>
    intro i s oa na acc c done hk hi hk0 ha hda hP hacc hdone hR
    have hin : i = items.size := by omega
    refine codeAny_builtin F.entry_list_repr_loop ?_
    show wpAny _ _ («list.__repr__.loop» ⟨[.ref a, .int i 0, .ref P, .int ((base + piled (ts.take i) : Nat) : Int) 0], []⟩) _ _ s
    rw [repr_loop_tree]
    refine wpAny_bind (wpAny_listItems ha hda ?_)
    have hnone : items[(i : Int).toNat]? = none := by simp [hin]
    simp only [hnone]
    unfold reprEnd
    refine wpAny_bind (wpAny_listItems hP rfl ?_)
    rw [hacc, repr_fold]
    refine wpAny_bind (wpAny_pure ?_)
    have hall : done.map (·.1) = ts := by rw [hdone, hin, ← hlen, List.take_length]
    rw [hall]
    refine wpAny_bind (wpAny_mkStr (wpAny_pure ?_) hsz3)
    exact hR s.heap _ _ (fun _ _ _ e => e)
  | succ k ih =>
    intro i s oa na acc c done hk hi hk0 ha hda hP hacc hdone hR
    have hlt : i < items.size := by omega
    obtain ⟨t, ht, hrep⟩ := hT i items[i] (by simp [hlt])
    have hp1 := piled_take_succ ht
    have hp2 := piled_take_le ts (i + 1)
    refine codeAny_builtin F.entry_list_repr_loop ?_
    show wpAny _ _ («list.__repr__.loop» ⟨[.ref a, .int i 0, .ref P, .int ((base + piled (ts.take i) : Nat) : Int) 0], []⟩) _ _ s
    rw [repr_loop_tree]
    refine wpAny_bind (wpAny_listItems ha hda ?_)
    have hsome : items[(i : Int).toNat]? = some items[i] := by simp [hlt]
    simp only [hsome]
    rw [Int.toNat_natCast]
    have hdl := wt_list_loop A ⟨[.ref a, rawInt i, .ref P, rawInt ((base + piled (ts.take i) : Nat) : Int)], []⟩
    refine wpAny_bind (wpAny_holding (hrep (base + piled (ts.take i) + 1) (by omega) _ _ _ _ _ (guards_under_guard (isGuard_list_loop _) hg) (fun b hb => (hcl b hb).cons (a := a) fun e => hna (e ▸ hb)) (by rw [units_under_list_loop]; omega) (by omega) hk0 fun h' tk hkp => ?_))
    refine wpAny_bind (wpAny_mkStr ?_ (hsz2 t (List.mem_of_getElem? ht)))
    refine wpAny_bind ?_
    show wpAny _ _ (updateSeq P _) _ _ _
    have hasz : acc.size ≤ sizeLine := by
      have e1 : acc.toList.length = acc.size := by simp
      have e2 : (strValues done).length = done.length := by simp [strValues]
      have e3 : done.length = (ts.take i).length := by rw [← hdone, List.length_map]
      have e4 : (ts.take i).length ≤ i := by rw [List.length_take]; omega
      rw [hacc] at e1; omega
    refine wpAny_updateSeq (hkp _ _ hP) rfl (wpAny_pure ⟨F.quiet_list_repr_loop _, ?_⟩) hasz
    have e1 : ((i : Int) + 1) = ((i + 1 : Nat) : Int) := by omega
    have e2 : base + piled (ts.take i) + (t.length + 2) = base + piled (ts.take (i + 1)) := by omega
    rw [e1, e2]
    refine ih (i + 1) _ oa na (acc.push (.str t tk)) _ (done ++ [(t, tk)]) (by omega) hlt (fun b o e => (Heap.get?_update_other _ _ (fun h : P = b => by rw [← h, hPf] at e; cases e)).trans (hkp _ _ (hk0 _ _ e))) ((Heap.get?_update_other _ _ (fun h : P = a => hne h.symm)).trans (hkp _ _ ha)) hda
      (Heap.get?_update_self _ (hkp _ _ hP) rfl) (by simp [hacc, strValues]) (by simp [List.take_add_one, ht, hdone]) fun h'' u tk' hh => ?_
    exact hR h'' u tk' fun b o hb e => hh b o hb ((Heap.get?_update_other _ _ (fun h : P = b => hb h.symm)).trans (hkp _ _ e))
end
section
variable {as : List Addr} {h₀ : Heap} {d : Nat} {a : Addr} {oa : Obj} {x : Value} {l : List Value} {na : Nat} {ts : List Str} {A : Around} {g : List Code} {s : Shared}
theorem list_reprAtD (ha : h₀.get? a = some oa) (hc : oa.cls = .type "list") (hda : oa.data = .seq (x :: l).toArray na) (hna : a ∉ as) (hT : ReprAllD prog w as h₀ d (x :: l) ts) {R : Result → Shared → Prop} {base : Nat}
    (hg : A.guards = some g) (hcl : ∀ b ∈ a :: as, Clear g b) (hu : A.units + (d + 1) < cLine) (hp : A.depth + (d + 1) < recursionLimit) (hk0 : ∀ b o, h₀.get? b = some o → s.heap.get? b = some o)
    (hR : ∀ h' u tk, (∀ b o, s.heap.get? b = some o → h'.get? b = some o) → R (.ok (.ret (.str (listText ts) u))) { s with heap := h', toks := tk }) (hsz : base + (listText ts).length ≤ sizeLine) :
    wpAny (model prog w) A.in1 (Builtin.listReprAt base ⟨[.ref a], []⟩) (fun fin s' => match fin with | .done f => R (.ok f) s' | .again c' => c'.quiet = true ∧ codeAny (model prog w) A c' R s') (fun e s' => R (.error e) s') s := by
  have hca : Clear g a := hcl a (.head _)
  have hPf : h₀.get? s.heap.objs.size = none := by
    cases e : h₀.get? s.heap.objs.size with
    | none => rfl
    | some o => exact absurd (Heap.lt_size (hk0 _ _ e)) (Nat.lt_irrefl _)
  refine wpAny_list_repr_head (A := A.in1) hg (fun v rest kw hm => listSameRef_of_ne (hca _ _ _ _ hm)) (hk0 _ _ ha) hda ?_
  refine wpAny_bind (m := newList []) (wpAny_newObj_type ?_)
  refine wpAny_pure ⟨F.quiet_list_repr_loop _, ?_⟩
  refine list_loopD (P := s.heap.objs.size) (Nat.ne_of_lt (Heap.lt_size (hk0 _ _ ha))) hg (fun b hb => hcl b (.tail _ hb)) hu hp hna hPf (by simpa using hT.len) (fun i y e => hT.item i y (by simpa using e)) hsz _ 0 _ oa na #[] _ [] rfl (Nat.zero_le _)
    (fun b o e => Heap.get?_push_of_some _ (hk0 _ _ e)) (Heap.get?_push_of_some _ (hk0 _ _ ha)) hda (Heap.get?_push_size _ rfl) rfl (by simp) fun h' u tk hk => ?_
  exact hR h' u tk fun b o e => hk b o (Nat.ne_of_lt (Heap.lt_size e)) (Heap.get?_push_of_some _ e)
theorem call_list_reprD {E : Value → Shared → Prop} {Q : Value → Shared → Prop} (ha : h₀.get? a = some oa) (hc : oa.cls = .type "list") (hda : oa.data = .seq (x :: l).toArray na) (hna : a ∉ as) (hT : ReprAllD prog w as h₀ d (x :: l) ts)
    (hg : A.guards = some g) (hcl : ∀ b ∈ a :: as, Clear g b) (hu : A.units + (d + 1) < cLine) (hp : A.depth + (d + 1) < recursionLimit) (hk0 : ∀ b o, h₀.get? b = some o → s.heap.get? b = some o)
    (hQ : ∀ h' u tk, (∀ b o, s.heap.get? b = some o → h'.get? b = some o) → Q (.str (listText ts) u) { s with heap := h', toks := tk }) (hsz : (listText ts).length ≤ sizeLine) :
    wpAny (model prog w) A (call (.builtin "list.__repr__") [.ref a]) Q E s :=
  wpAny_call (codeAny_call_builtin F.slot_list_repr.plain F.entry_list_repr (F.slot_list_repr.check _ _ _ _ _ _ _ _ ⟨oa, hk0 _ _ ha, hc⟩ (F.args_list_repr_1 _)
    (list_reprAtD (base := 0) (R := callEnd Q E) ha hc hda hna hT hg hcl hu hp hk0 hQ (by omega))))
theorem ReprD.list (ha : h₀.get? a = some oa) (hc : oa.cls = .type "list") (hda : oa.data = .seq (x :: l).toArray na) (hna : a ∉ as) (hT : ReprAllD prog w as h₀ d (x :: l) ts) : ReprD prog w (a :: as) h₀ (d + 1) (.ref a) (listText ts) := by
  intro base hb A g E s Q hg hcl hu hp hk0 hQ
  refine wpAny_pyReprUnder_ref (by omega) (wpAny_pyReprObjUnder_twin (twin := "list.__repr__.under") ⟨oa, hk0 _ _ ha, hc⟩ F.slot_list_repr.toG rfl (by omega) ?_)
  exact call_twin_plain F.plain_list_repr_under F.entry_list_repr_under F.check_list_repr_under ⟨oa, hk0 _ _ ha, hc⟩ F.slot_list_repr.toG (F.args_list_repr_1 _)
    (list_reprAtD (R := callEnd _ E) ha hc hda hna hT hg hcl hu hp hk0 (fun h' u tk hk => ⟨⟨_, _, rfl⟩, _, _, rfl, hQ h' tk hk⟩) hb)
theorem ReprD.list0 (ha : h₀.get? a = some oa) (hc : oa.cls = .type "list") (hda : oa.data = .seq #[] na) : ReprD prog w as h₀ d (.ref a) "[]" := by
  intro base hb A g E s Q hg hcl hu hp hk0 hQ
  exact wpAny_pyReprUnder_ref (by omega) (wpAny_pyReprObjUnder_list_empty ⟨oa, hk0 _ _ ha, hc⟩ (by omega) (hk0 _ _ ha) hda ⟨_, _, rfl, hQ s.heap _ fun _ _ e => e⟩)
end
end
end PySem

/-! Values that may be shown: atoms, amounts, lists and tuples of such; repr of them. -/
namespace WU
open PySem PySem.Spec PyProof.Rows L2 SlX
/-- the text of an amount -/
def amT (n d : Int) : Str := if d = 1 then "Amount(" ++ (toString n : String) ++ ")" else "Amount(" ++ (toString n : String) ++ ", " ++ (toString d : String) ++ ")"
/-- at x: an instance of C with two ints in its slots -/
def AmAt (h : Heap) (C x : Addr) (n d : Int) : Prop := ∃ (dx : Addr) (sl : Array (Option Value)) (od : Obj) (t0 t1 : Tok), PySem.W.InstAt h x { PySem.W.instObj C dx with slots := sl } C (some od) ∧ (sl[0]?).join = some (.int n t0) ∧ (sl[1]?).join = some (.int d t1)
theorem AmAt.keeps {h h' : Heap} {C x : Addr} {n d : Int} (a : AmAt h C x n d) (k : ∀ b o, h.get? b = some o → h'.get? b = some o) : AmAt h' C x n d := by
  obtain ⟨dx, sl, od, t0, t1, I, r⟩ := a
  exact ⟨dx, sl, od, t0, t1, ⟨k _ _ I.at_, I.cls, I.no, k _ _ I.dict⟩, r⟩
/-- the class C shows its instances by the def at f, and that def does so -/
structure AmR (prog : Program) (w : World) (K : PySem.W.Frag) (C f : Addr) : Prop where
  i : PySem.W.findIn K (.ref C) "__repr__" = some (some (.ref f))
  t : PySem.W.typeIn K (.ref f) = some (.type "function")
  run : ∀ (A : Around) (R : Result → Shared → Prop) (s : Shared) (x : Addr) (n d : Int), A.depth < recursionLimit → K.In s.heap → s.heap.NoLimit → AmAt s.heap C x n d → n.natAbs.log2 < 1920 → d.natAbs.log2 < 1920 →
    (∀ h' u tk, (∀ b o, s.heap.get? b = some o → h'.get? b = some o) → R (.ok (.ret (.str (amT n d) u))) { s with heap := h', toks := tk }) → codeAny (model prog w) A (.call (.ref f) ⟨[.ref x], []⟩) R s
section
variable {prog : Program} {w : World} {K : PySem.W.Frag} {C f x : Addr} {n d : Int} {A : Around} {E : Value → Shared → Prop} {s : Shared}
theorem own_call (T : AmR prog w K C f) {Q : Value → Shared → Prop} (hp : A.depth < recursionLimit) (X : K.In s.heap) (lim : s.heap.NoLimit) (a : AmAt s.heap C x n d) (h1 : n.natAbs.log2 < 1920) (h2 : d.natAbs.log2 < 1920)
    (hQ : ∀ h' u tk, (∀ b o, s.heap.get? b = some o → h'.get? b = some o) → Q (.str (amT n d) u) { s with heap := h', toks := tk }) : wpAny (model prog w) A (call (.ref f) [.ref x]) Q E s :=
  wpAny_call (T.run A _ s x n d hp X lim a h1 h2 fun h' u tk k => hQ h' u tk k)
theorem own_bound (T : AmR prog w K C f) (X : K.In s.heap) (a : AmAt s.heap C x n d) {last : Value → List Value → Sem Value} {Q : Option Value → Shared → Prop}
    (h : wpAny (model prog w) A (last (.ref f) [.ref x]) (fun v => Q (some v)) E s) : wpAny (model prog w) A (callSpecialIfBoundBy? last (.ref x) "__repr__") Q E s := by
  obtain ⟨dx, sl, od, t0, t1, I, r⟩ := a
  have L1 : PySem.W.Looks (model prog w) s.heap (specialOf (.ref x) "__repr__") (some (.ref f)) := I.type.andThen (PySem.W.looks_findIn X T.i)
  have L2 := PySem.W.bind_fn (M := model prog w) X (.ref x) T.t
  simp only [callSpecialIfBoundBy?, bindSpecialIfBound?]
  refine wpAny_holding (wpAny_bind (wpAny_bind (L1.here ?_)))
  dsimp only
  refine wpAny_bind (wpAny_askSetting (wpAny_ite ?_))
  have fin : wpAny (model prog w) A (last (.ref f) [.ref x] >>= fun v => pure (some v)) Q E s := wpAny_bind (wpAny_mono h (fun v s' h' => wpAny_pure h') fun _ _ h' => h')
  split
  · exact wpAny_bind (L2.here (wpAny_pure fin))
  · exact wpAny_tryCatch (wpAny_bind (L2.here (wpAny_pure fin)))
theorem own_by (T : AmR prog w K C f) (hu : A.units < cLine) (X : K.In s.heap) (a : AmAt s.heap C x n d) {last : Value → List Value → Sem Value} {Q : Value → Shared → Prop}
    (h : wpAny (model prog w) A (last (.ref f) [.ref x]) (fun v s' => (∃ z u, v = .str z u) ∧ Q v s') E s) : wpAny (model prog w) A (pyReprObjBy last (.ref x)) Q E s := by
  have a' := a
  obtain ⟨dx, sl, od, t0, t1, I, r⟩ := a'
  have L1 : PySem.W.Looks (model prog w) s.heap (specialOf (.ref x) "__repr__") (some (.ref f)) := I.type.andThen (PySem.W.looks_findIn X T.i)
  unfold pyReprObjBy
  refine wpAny_bind (wpAny_cRoomFor hu (wpAny_bind (L1.here ?_)))
  refine wpAny_bind (own_bound T X a (wpAny_mono h (fun v s' hv => ?_) fun _ _ z => z))
  obtain ⟨⟨z, u, rfl⟩, hq⟩ := hv
  exact wpAny_bind (wpAny_isInstance (T := "str") (b := true) rfl isSubtype_str_str (wpAny_pure hq))
theorem reprD_own {as : List Addr} {h₀ : Heap} {k : Nat} (T : AmR prog w K C f) (X : K.In h₀) (lim : h₀.NoLimit) (a : AmAt h₀ C x n d) (h1 : n.natAbs.log2 < 1920) (h2 : d.natAbs.log2 < 1920) : ReprD prog w as h₀ k (.ref x) (amT n d) := by
  intro base hb A g E s Q hg hcl hu hp hk0 hQ
  refine wpAny_pyReprUnder_ref (by omega) ?_
  refine own_by T (by omega) (X.keeps hk0) (a.keeps hk0) ?_
  exact own_call T (by omega) (X.keeps hk0) (lim.keeps hk0) (a.keeps hk0) h1 h2 fun h' u tk k => ⟨⟨_, _, rfl⟩, _, _, rfl, hQ h' tk k⟩
end
mutual
/-- v may be shown as t; its rank -/
inductive Rk (C : Addr) (h : Heap) : Value → Nat → Str → Prop
  | none : Rk C h .none 0 "None"
  | bool (b : Bool) : Rk C h (.bool b) 0 (if b then "True" else "False")
  | int (i : Int) (t : Tok) : i.natAbs.log2 < 1920 → Rk C h (.int i t) 0 (toString i : String)
  | str (x : Str) (t : Tok) : Rk C h (.str x t) 0 (reprText x)
  | am {x : Addr} {n d : Int} : AmAt h C x n d → n.natAbs.log2 < 1920 → d.natAbs.log2 < 1920 → Rk C h (.ref x) 0 (amT n d)
  | list0 {a : Addr} {o : Obj} {n : Nat} : h.get? a = some o → o.cls = .type "list" → o.data = .seq #[] n → Rk C h (.ref a) 0 "[]"
  | dict0 {a : Addr} {o : Obj} {n : Nat} : h.get? a = some o → o.cls = .type "dict" → o.data = .dict #[] n → (a == sysModules) = false → Rk C h (.ref a) 1 (dictText [])
  | list {a : Addr} {o : Obj} {n m : Nat} {x : Value} {l : List Value} {ts : List Str} : h.get? a = some o → o.cls = .type "list" → o.data = .seq (x :: l).toArray n → RkAll C h (x :: l) m ts → Rk C h (.ref a) (m + 1) (listText ts)
  | tuple {a : Addr} {o : Obj} {n m : Nat} {its : Array Value} {ts : List Str} : h.get? a = some o → o.cls = .type "tuple" → o.data = .seq its n → RkAll C h its.toList m ts → Rk C h (.ref a) (m + 1) (tupleText ts)
inductive RkAll (C : Addr) (h : Heap) : List Value → Nat → List Str → Prop
  | nil : RkAll C h [] 0 []
  | cons {x : Value} {l : List Value} {n m : Nat} {t : Str} {ts : List Str} : Rk C h x n t → RkAll C h l m ts → RkAll C h (x :: l) (max n m) (t :: ts)
end
/-- the class of what stands at a -/
theorem cls_of {h : Heap} {a : Addr} {o o' : Obj} (h1 : h.get? a = some o) (h2 : h.get? a = some o') : o = o' := Option.some.inj (h1.symm.trans h2)
mutual
theorem Rk.det {C : Addr} {h : Heap} : ∀ {v : Value} {n n' : Nat} {t t' : Str}, Rk C h v n t → Rk C h v n' t' → n = n'
  | _, _, _, _, _, .none, q => by cases q; rfl
  | _, _, _, _, _, .bool b, q => by cases q; rfl
  | _, _, _, _, _, .int i t _, q => by cases q; rfl
  | _, _, _, _, _, .str x t, q => by cases q; rfl
  | _, _, _, _, _, .am a1 _ _, q => by
    obtain ⟨dx, sl, od, t0, t1, I, r⟩ := a1
    cases q with
    | am _ _ _ => rfl
    | list0 e c _ => have z := cls_of I.at_ e; subst z; cases c
    | dict0 e c _ _ => have z := cls_of I.at_ e; subst z; cases c
    | list e c _ _ => have z := cls_of I.at_ e; subst z; cases c
    | tuple e c _ _ => have z := cls_of I.at_ e; subst z; cases c
  | _, _, _, _, _, .list0 e c d, q => by
    cases q with
    | am a1 _ _ => obtain ⟨dx, sl, od, t0, t1, I, r⟩ := a1; have z := cls_of I.at_ e; subst z; cases c
    | list0 _ _ _ => rfl
    | dict0 e' c' _ _ => have z := cls_of e e'; subst z; exact absurd (c.symm.trans c') (by decide)
    | list e' c' d' _ => have z := cls_of e e'; subst z; rw [d] at d'; cases d'
    | tuple e' c' _ _ => have z := cls_of e e'; subst z; exact absurd (c.symm.trans c') (by decide)
  | _, _, _, _, _, .dict0 e c d _, q => by
    cases q with
    | am a1 _ _ => obtain ⟨dx, sl, od, t0, t1, I, r⟩ := a1; have z := cls_of I.at_ e; subst z; cases c
    | list0 e' c' _ => have z := cls_of e e'; subst z; exact absurd (c.symm.trans c') (by decide)
    | dict0 _ _ _ _ => rfl
    | list e' c' d' _ => have z := cls_of e e'; subst z; exact absurd (c.symm.trans c') (by decide)
    | tuple e' c' _ _ => have z := cls_of e e'; subst z; exact absurd (c.symm.trans c') (by decide)
  | _, _, _, _, _, .list e c d r, q => by
    cases q with
    | am a1 _ _ => obtain ⟨dx, sl, od, t0, t1, I, r⟩ := a1; have z := cls_of I.at_ e; subst z; cases c
    | list0 e' c' d' => have z := cls_of e e'; subst z; rw [d] at d'; cases d'
    | dict0 e' c' _ _ => have z := cls_of e e'; subst z; exact absurd (c.symm.trans c') (by decide)
    | list e' c' d' r' =>
      have z := cls_of e e'
      subst z
      rw [d] at d'
      cases d'
      rw [RkAll.det r r']
    | tuple e' c' _ _ => have z := cls_of e e'; subst z; exact absurd (c.symm.trans c') (by decide)
  | _, _, _, _, _, .tuple e c d r, q => by
    cases q with
    | am a1 _ _ => obtain ⟨dx, sl, od, t0, t1, I, r⟩ := a1; have z := cls_of I.at_ e; subst z; cases c
    | list0 e' c' d' => have z := cls_of e e'; subst z; exact absurd (c.symm.trans c') (by decide)
    | dict0 e' c' _ _ => have z := cls_of e e'; subst z; exact absurd (c.symm.trans c') (by decide)
    | list e' c' d' r' => have z := cls_of e e'; subst z; exact absurd (c.symm.trans c') (by decide)
    | tuple e' c' d' r' =>
      have z := cls_of e e'
      subst z
      rw [d] at d'
      cases d'
      rw [RkAll.det r r']
theorem RkAll.det {C : Addr} {h : Heap} : ∀ {l : List Value} {n n' : Nat} {ts ts' : List Str}, RkAll C h l n ts → RkAll C h l n' ts' → n = n'
  | _, _, _, _, _, .nil, q => by cases q; rfl
  | _, _, _, _, _, .cons a b, q => by
    cases q with
    | cons a' b' => rw [Rk.det a a', RkAll.det b b']
end
/-- every one of as has a rank of at most n -/
def RkMost (C : Addr) (h : Heap) (n : Nat) (as : List Addr) : Prop := ∀ b ∈ as, ∃ m z, Rk C h (.ref b) m z ∧ m ≤ n
theorem RkMost.nil {C : Addr} {h : Heap} {n : Nat} : RkMost C h n [] := fun _ z => nomatch z
theorem RkMost.not {C : Addr} {h : Heap} {n m : Nat} {as : List Addr} {a : Addr} {z : Str} (x : RkMost C h n as) (r : Rk C h (.ref a) m z) (hl : n < m) : a ∉ as := fun hm => by
  obtain ⟨k, z', r', hk⟩ := x a hm
  have := Rk.det r r'
  omega
theorem RkMost.cons {C : Addr} {h : Heap} {n m : Nat} {as : List Addr} {a : Addr} {z : Str} (x : RkMost C h n as) (r : Rk C h (.ref a) m z) (hl : n ≤ m) : RkMost C h m (a :: as) := fun b hb => by
  rcases List.mem_cons.mp hb with rfl | hb
  · exact ⟨m, z, r, Nat.le_refl _⟩
  · obtain ⟨k, z', r', hk⟩ := x b hb
    exact ⟨k, z', r', Nat.le_trans hk hl⟩
section
variable {prog : Program} {w : World} {K : PySem.W.Frag} {C f : Addr} {h : Heap}
mutual
theorem Rk.repr (T : AmR prog w K C f) (X : K.In h) (lim : h.NoLimit) : ∀ {v : Value} {n : Nat} {t : Str}, Rk C h v n t → t.length ≤ sizeLine → ∃ as, RkMost C h n as ∧ ReprD prog w as h n v t
  | _, _, _, .none, _ => ⟨[], RkMost.nil, .of_is .none _ _ _⟩
  | _, _, _, .bool b, _ => ⟨[], RkMost.nil, .of_is (.bool b) _ _ _⟩
  | _, _, _, .int i t hi, _ => ⟨[], RkMost.nil, .of_is (.int t hi) _ _ _⟩
  | _, _, _, .str x t, hz => ⟨[], RkMost.nil, .of_is (.str x t hz) _ _ _⟩
  | _, _, _, .am a h1 h2, _ => ⟨[], RkMost.nil, reprD_own T X lim a h1 h2⟩
  | _, _, _, .list0 e c d, _ => ⟨[], RkMost.nil, .list0 e c d⟩
  | _, _, _, .dict0 e c d hs, hz => ⟨_, RkMost.cons (n := 0) (as := []) RkMost.nil (.dict0 e c d hs) (Nat.zero_le _), fun base hb A g E s Q hg hcl hu hp hk0 hQ => (ReprK.dict (as := []) (d := 0) (ps := []) e c d hs (by simp) .nil) base hb A g E s Q hg hcl hu hk0 hQ⟩
  | _, _, _, .list e c d r, hz => by
    obtain ⟨as, h1, h2⟩ := RkAll.repr T X lim r fun t ht => Nat.le_trans (listText_mem_le ht) hz
    have hn := h1.not (Rk.list e c d r) (Nat.lt_succ_self _)
    exact ⟨_, h1.cons (Rk.list e c d r) (Nat.le_succ _), .list e c d hn h2⟩
  | _, _, _, .tuple e c d r, hz => by
    obtain ⟨as, h1, h2⟩ := RkAll.repr T X lim r fun t ht => Nat.le_trans (tupleText_mem_le ht) hz
    have hn := h1.not (Rk.tuple e c d r) (Nat.lt_succ_self _)
    exact ⟨_, h1.cons (Rk.tuple e c d r) (Nat.le_succ _), .tuple e c d hn h2⟩
theorem RkAll.repr (T : AmR prog w K C f) (X : K.In h) (lim : h.NoLimit) : ∀ {l : List Value} {n : Nat} {ts : List Str}, RkAll C h l n ts → (∀ t ∈ ts, t.length ≤ sizeLine) → ∃ as, RkMost C h n as ∧ ReprAllD prog w as h n l ts
  | _, _, _, .nil, _ => ⟨[], RkMost.nil, .nil⟩
  | _, _, _, .cons (n := n) (m := m) a b, hz => by
    obtain ⟨as, h1, h2⟩ := Rk.repr T X lim a (hz _ List.mem_cons_self)
    obtain ⟨bs, h3, h4⟩ := RkAll.repr T X lim b fun t ht => hz t (List.mem_cons_of_mem _ ht)
    refine ⟨as ++ bs, fun b hb => ?_, .cons (h2.wide (fun b hb => List.mem_append_left _ hb) (Nat.le_max_left _ _)) (h4.wide (fun b hb => List.mem_append_right _ hb) (Nat.le_max_right _ _))⟩
    rcases List.mem_append.mp hb with hb | hb
    · obtain ⟨k, z, r, hk⟩ := h1 b hb
      exact ⟨k, z, r, Nat.le_trans hk (Nat.le_max_left _ _)⟩
    · obtain ⟨k, z, r, hk⟩ := h3 b hb
      exact ⟨k, z, r, Nat.le_trans hk (Nat.le_max_right _ _)⟩
end
end
section
variable {prog : Program} {w : World} {K : PySem.W.Frag} {C f : Addr} {h : Heap} {A : Around} {E : Value → Shared → Prop} {s : Shared}
theorem own_repr {x : Addr} {n d : Int} {Q : Value → Shared → Prop} (T : AmR prog w K C f) (hu : A.units + 1 < cLine) (hp : A.depth < recursionLimit) (X : K.In s.heap) (lim : s.heap.NoLimit) (a : AmAt s.heap C x n d) (h1 : n.natAbs.log2 < 1920) (h2 : d.natAbs.log2 < 1920)
    (hQ : ∀ h' u tk, (∀ b o, s.heap.get? b = some o → h'.get? b = some o) → Q (.str (amT n d) u) { s with heap := h', toks := tk }) : wpAny (model prog w) A (call (.builtin "repr") [.ref x]) Q E s := by
  have a' := a
  obtain ⟨dx, sl, od, t0, t1, I, r⟩ := a'
  have L1 : PySem.W.Looks (model prog w) s.heap (specialOf (.ref x) "__repr__") (some (.ref f)) := I.type.andThen (PySem.W.looks_findIn X T.i)
  refine Calls.call_function_entry F.kind_repr F.plain_repr F.entry_repr (F.args_repr1 _) ?_
  unfold Builtin.«repr»
  refine wpAny_bind (m := oneArg "repr" _) (wpAny_pure ?_)
  refine wpAny_bind (m := cRoomFor _ _) (wpAny_cRoomFor (by show A.units + 1 < cLine; exact hu) ?_)
  refine wpAny_bind (L1.here ?_)
  refine wpAny_bind (m := callSpecialIfBoundBy? (fun g first => call g (first ++ [])) (.ref x) "__repr__") (own_bound T X a (own_call T hp X lim a h1 h2 fun h' u tk k => ?_))
  exact wpAny_bind (wpAny_isInstance (T := "str") (b := true) rfl isSubtype_str_str (wpAny_pure ⟨_, rfl, hQ h' u tk k⟩))
theorem Rk.call {v : Value} {n : Nat} {t : Str} {Q : Value → Shared → Prop} (T : AmR prog w K C f) (X : K.In h) (lim : h.NoLimit) (r : Rk C h v n t) (hz : t.length ≤ sizeLine) (hg : A.guards = some []) (hu : A.units + (n + 2) < cLine) (hp : A.depth + (n + 2) < recursionLimit)
    (hk0 : ∀ b o, h.get? b = some o → s.heap.get? b = some o) (hQ : ∀ h' u tk, (∀ b o, s.heap.get? b = some o → h'.get? b = some o) → Q (.str t u) { s with heap := h', toks := tk }) : wpAny (model prog w) A (call (.builtin "repr") [v]) Q E s := by
  cases r with
  | none => exact P.repr_of_none (hQ s.heap _ _ fun _ _ e => e)
  | bool b => exact P.repr_of_bool (hQ s.heap _ _ fun _ _ e => e)
  | int i t hi => exact P.repr_of_int hi (hQ s.heap _ _ fun _ _ e => e)
  | str x t => exact P.repr_of_str (hQ s.heap _ _ fun _ _ e => e) hz
  | am a h1 h2 => exact own_repr T (by omega) (by omega) (X.keeps hk0) (lim.keeps hk0) (a.keeps hk0) h1 h2 hQ
  | list0 e c d => exact call_repr_slot (by omega) ⟨_, hk0 _ _ e, c⟩ F.slot_list_repr.toG (call_list_repr_empty ⟨_, hk0 _ _ e, c⟩ (hk0 _ _ e) d ⟨_, _, rfl, hQ s.heap _ _ fun _ _ e => e⟩)
  | dict0 e c d hs => exact call_repr_slot (by omega) ⟨_, hk0 _ _ e, c⟩ F.slot_dict_repr (call_dict_reprK (as := []) (d := 0) (ps := []) e c d hs (by simp) .nil hg (fun b _ => Clear.nil b) (by show A.units + 1 + (0 + 1) < _; omega) hk0 (fun h' u tk k => ⟨_, _, rfl, hQ h' u tk k⟩) hz)
  | list e c d r =>
    obtain ⟨as, h1, h2⟩ := RkAll.repr T X lim r fun t ht => Nat.le_trans (listText_mem_le ht) hz
    have hn := h1.not (Rk.list e c d r) (Nat.lt_succ_self _)
    exact call_repr_slot (by omega) ⟨_, hk0 _ _ e, c⟩ F.slot_list_repr.toG (call_list_reprD e c d hn h2 hg (fun b _ => Clear.nil b) (by show A.units + 1 + _ < _; omega) (by show A.depth + _ < _; omega) hk0 (fun h' u tk k => ⟨_, _, rfl, hQ h' u tk k⟩) hz)
  | tuple e c d r =>
    obtain ⟨as, h1, h2⟩ := RkAll.repr T X lim r fun t ht => Nat.le_trans (tupleText_mem_le ht) hz
    have hn := h1.not (Rk.tuple e c d r) (Nat.lt_succ_self _)
    exact call_repr_slot (by omega) ⟨_, hk0 _ _ e, c⟩ F.slot_tuple_repr (call_tuple_reprD e c d hn h2 hg (fun b _ => Clear.nil b) (by show A.units + 1 + _ < _; omega) (by show A.depth + _ < _; omega) hk0 (fun h' u tk k => ⟨_, _, rfl, hQ h' u tk k⟩) hz)
end
mutual
/-- v, as the abstract heap has it, may be shown as t; its rank -/
inductive Sh (K : PySem.W.Frag) (C : Addr) (H : Hp) : V → Nat → Str → Prop
  | non : Sh K C H .non 0 "None"
  | bl (b : Bool) : Sh K C H (.bl b) 0 (if b then "True" else "False")
  | int (i : Int) : i.natAbs.log2 < 1920 → Sh K C H (.int i) 0 (toString i : String)
  | str (x : Str) : Sh K C H (.str x) 0 (reprText x)
  | am {v : V} {n d : Int} : Am C H v n d → n.natAbs.log2 < 1920 → d.natAbs.log2 < 1920 → Sh K C H v 0 (amT n d)
  | list0 {p : Addr} : SqL K H p [] → Sh K C H (.ref p) 0 "[]"
  | dict0 {p : Addr} : H p = some (.dK []) → Sh K C H (.ref p) 1 (dictText [])
  | list {p : Addr} {x : V} {l : List V} {m : Nat} {ts : List Str} : SqL K H p (x :: l) → ShAll K C H (x :: l) m ts → Sh K C H (.ref p) (m + 1) (listText ts)
  | tuple {p : Addr} {xs : List V} {m : Nat} {ts : List Str} : SqT K H p xs → ShAll K C H xs m ts → Sh K C H (.ref p) (m + 1) (tupleText ts)
inductive ShAll (K : PySem.W.Frag) (C : Addr) (H : Hp) : List V → Nat → List Str → Prop
  | nil : ShAll K C H [] 0 []
  | cons {x : V} {l : List V} {n m : Nat} {t : Str} {ts : List Str} : Sh K C H x n t → ShAll K C H l m ts → ShAll K C H (x :: l) (max n m) (t :: ts)
end
theorem Am.at {X : Cx} {pins : List (Addr × Obj)} {σ : L2.St} {H : Hp} {s : Shared} {C : Addr} {v : V} {n d : Int} {u : Value} (I : Inv X pins σ H s) (a : Am C H v n d) (r : RelV v u) : ∃ x, u = .ref x ∧ AmAt s.heap C x n d := by
  obtain ⟨b, dx, rfl, h⟩ := a.slt
  cases (show u = Value.ref b from r)
  obtain ⟨sl, od, rl, J, _⟩ := slt_inst I h
  obtain ⟨u0, e0, r0⟩ := rl 0 _ rfl
  obtain ⟨u1, e1, r1⟩ := rl 1 _ rfl
  obtain ⟨t0, rfl⟩ := (show ∃ t, u0 = Value.int n t from r0)
  obtain ⟨t1, rfl⟩ := (show ∃ t, u1 = Value.int d t from r1)
  exact ⟨b, rfl, dx, sl, od, t0, t1, J, by rw [e0]; rfl, by rw [e1]; rfl⟩
section
variable {X : Cx} {pins : List (Addr × Obj)} {σ : L2.St} {H : Hp} {s : Shared} {C : Addr}
mutual
theorem Sh.rk (I : Inv X pins σ H s) : ∀ {v : V} {n : Nat} {t : Str} {u : Value}, Sh X.K C H v n t → RelV v u → Rk C s.heap u n t
  | _, _, _, u, .non, r => by cases (show u = Value.none from r); exact .none
  | _, _, _, u, .bl b, r => by cases (show u = Value.bool b from r); exact .bool b
  | _, _, _, u, .int i hi, r => by obtain ⟨t, rfl⟩ := (show ∃ t, u = Value.int i t from r); exact .int i t hi
  | _, _, _, u, .str x, r => by obtain ⟨t, rfl⟩ := (show ∃ t, u = Value.str x t from r); exact .str x t
  | _, _, _, u, .am a h1 h2, r => by
    obtain ⟨x, rfl, a'⟩ := Am.at I a r
    exact .am a' h1 h2
  | _, _, _, u, .list0 (p := p) h, r => by
    cases (show u = Value.ref p from r)
    obtain ⟨its, rv, pl, _⟩ := I.list h
    obtain ⟨o, n, ho, hc, hd, hs⟩ := pl
    cases rv
    exact .list0 ho hc hs
  | _, _, _, u, .dict0 (p := p) h, r => by
    cases (show u = Value.ref p from r)
    obtain ⟨hz, hS, vs, rv, o, es, ep, ho, hx, hd, hk, hp, hn⟩ := (show ObjOk X.prog X.w H s.heap p (.dK []) from I.hok p _ h)
    cases rv
    obtain ⟨l⟩ := es
    have hl : l = [] := by
      cases l with
      | nil => rfl
      | cons a b => cases hp
    subst hl
    exact .dict0 ho hx.1 hd hS
  | _, _, _, u, .list (p := p) h q, r => by
    cases (show u = Value.ref p from r)
    obtain ⟨its, rv, pl, _⟩ := I.list h
    obtain ⟨o, n, ho, hc, hd, hs⟩ := pl
    cases rv with
    | cons r1 r2 => exact .list ho hc hs (ShAll.rk I q (.cons r1 r2))
  | _, _, _, u, .tuple (p := p) h q, r => by
    cases (show u = Value.ref p from r)
    obtain ⟨its, rv, pl, _⟩ := I.tuple h
    obtain ⟨o, ho, hc, n, hs⟩ := pl
    exact .tuple ho hc hs (ShAll.rk I q rv)
theorem ShAll.rk (I : Inv X pins σ H s) : ∀ {l : List V} {n : Nat} {ts : List Str} {us : List Value}, ShAll X.K C H l n ts → Vals l us → RkAll C s.heap us n ts
  | _, _, _, _, .nil, .nil => .nil
  | _, _, _, _, .cons a b, .cons r t => .cons (Sh.rk I a r) (ShAll.rk I b t)
end
end
mutual
theorem Sh.ext {K : PySem.W.Frag} {C : Addr} {H H' : Hp} (e : Evl.Ex H H') : ∀ {v : V} {n : Nat} {t : Str}, Sh K C H v n t → Sh K C H' v n t
  | _, _, _, .non => .non
  | _, _, _, .bl b => .bl b
  | _, _, _, .int i h => .int i h
  | _, _, _, .str x => .str x
  | _, _, _, .am a h1 h2 => .am (a.ext e) h1 h2
  | _, _, _, .list0 h => .list0 (Evl.ex_l e h)
  | _, _, _, .dict0 h => .dict0 (e _ _ h)
  | _, _, _, .list h q => .list (Evl.ex_l e h) (ShAll.ext e q)
  | _, _, _, .tuple h q => .tuple (Evl.ex_t e h) (ShAll.ext e q)
theorem ShAll.ext {K : PySem.W.Frag} {C : Addr} {H H' : Hp} (e : Evl.Ex H H') : ∀ {l : List V} {n : Nat} {ts : List Str}, ShAll K C H l n ts → ShAll K C H' l n ts
  | _, _, _, .nil => .nil
  | _, _, _, .cons a b => .cons (Sh.ext e a) (ShAll.ext e b)
end
/-- repr(x) of what may be shown -/
def rReprX (K : PySem.W.Frag) (C : Addr) : List V → Hp → VK → Prop := fun xs H Q => ∃ v n t, xs = [v] ∧ Sh K C H v n t ∧ n ≤ 5 ∧ t.length ≤ sizeLine ∧ Q (.str t) H
theorem call_reprX {X : Cx} {C f : Addr} (T : AmR X.prog X.w X.K C f) (hr : Room 1 X.A) (hg : X.A.guards = some []) : CallR X (.builtin "repr") (rReprX X.K C) := by
  intro pins s σ H xs us Q I r h
  obtain ⟨v, n, t, rfl, hs, hn, hz, q⟩ := h
  obtain ⟨u, rfl, ru⟩ := r.one
  have h1 := hr.dp
  have h2 := hr.un
  exact (Sh.rk I hs ru).call T I.kIn I.nolimit hz hg (by omega) (by omega) (fun _ _ e => e) fun h' u tk k => ⟨.str t, H, I.kept k, ⟨u, rfl⟩, q⟩
end WU

/-! printed by gen_bo.py: + - * // with an instance of an own class on either side: own def first, or second behind int's own. -/
namespace WM
open PySem PySem.Spec PyProof.Rows PySem.W
open AutoSeq1 (wpAny_loadPart')
open MeetsSeq MeetsSeq2 MeetsSeq3 SeqRoads2
theorem dec_int_add (b : Int) (u : Tok) (l C dx : Addr) (sl : Array (Option Value)) :
    Meets (Builtin.«int.__add__» ⟨[.int b u, .ref l], []⟩) (fun _ R s => s.heap.get? l = some { instObj C dx with slots := sl } ∧ R (.ok (.ret .notImplemented)) s) :=
  .of_wp fun prog w A R s h => by obtain ⟨hp, g, d, tk, os⟩ := s; obtain ⟨hl, h⟩ := h; wp_walk using wpAny_loadPart' hl, wpAny_load hl; exact ⟨_, rfl, h⟩
theorem taken_int_add : typeLookup (.type "int") (dunderR "add") = pure (some (.builtin "int.__radd__")) := by
  rw [typeLookup_type, builtinLookup_eq_fast]
  kernel_rfl
theorem dec_int_sub (b : Int) (u : Tok) (l C dx : Addr) (sl : Array (Option Value)) :
    Meets (Builtin.«int.__sub__» ⟨[.int b u, .ref l], []⟩) (fun _ R s => s.heap.get? l = some { instObj C dx with slots := sl } ∧ R (.ok (.ret .notImplemented)) s) :=
  .of_wp fun prog w A R s h => by obtain ⟨hp, g, d, tk, os⟩ := s; obtain ⟨hl, h⟩ := h; wp_walk using wpAny_loadPart' hl, wpAny_load hl; exact ⟨_, rfl, h⟩
theorem taken_int_sub : typeLookup (.type "int") (dunderR "sub") = pure (some (.builtin "int.__rsub__")) := by
  rw [typeLookup_type, builtinLookup_eq_fast]
  kernel_rfl
theorem dec_int_mul (b : Int) (u : Tok) (l C dx : Addr) (sl : Array (Option Value)) :
    Meets (Builtin.«int.__mul__» ⟨[.int b u, .ref l], []⟩) (fun _ R s => s.heap.get? l = some { instObj C dx with slots := sl } ∧ R (.ok (.ret .notImplemented)) s) :=
  .of_wp fun prog w A R s h => by obtain ⟨hp, g, d, tk, os⟩ := s; obtain ⟨hl, h⟩ := h; wp_walk using wpAny_loadPart' hl, wpAny_load hl; exact ⟨_, rfl, h⟩
theorem taken_int_mul : typeLookup (.type "int") (dunderR "mul") = pure (some (.builtin "int.__rmul__")) := by
  rw [typeLookup_type, builtinLookup_eq_fast]
  kernel_rfl
theorem dec_int_floordiv (b : Int) (u : Tok) (l C dx : Addr) (sl : Array (Option Value)) :
    Meets (Builtin.«int.__floordiv__» ⟨[.int b u, .ref l], []⟩) (fun _ R s => s.heap.get? l = some { instObj C dx with slots := sl } ∧ R (.ok (.ret .notImplemented)) s) :=
  .of_wp fun prog w A R s h => by obtain ⟨hp, g, d, tk, os⟩ := s; obtain ⟨hl, h⟩ := h; wp_walk using wpAny_loadPart' hl, wpAny_load hl; exact ⟨_, rfl, h⟩
theorem taken_int_floordiv : typeLookup (.type "int") (dunderR "floordiv") = pure (some (.builtin "int.__rfloordiv__")) := by
  rw [typeLookup_type, builtinLookup_eq_fast]
  kernel_rfl
section
variable {prog : Program} {w : World} {A : Around} {E : Value → Shared → Prop} {s : Shared} {K : Frag} {x C f g : Addr} {ox : Obj} {od : Option Obj} {op : Operator} {j : Int} {t : Tok} {Q : Value → Shared → Prop}
theorem fills_own {M : Model} {h : Heap} (X : K.In h) (hc : selfFirst K C = true) {nm : String} (hs : findIn K (.ref C) (PySem.dunder nm) = some (some (.ref f))) : Looks M h (fillsNumberSlot (.ref C) nm) true := by
  obtain ⟨cd, hcd, hm⟩ := any_some hc
  obtain ⟨rest, hm⟩ : ∃ rest, cd.mro = .ref C :: rest := by
    cases q : cd.mro with
    | nil => rw [q] at hm; cases hm
    | cons a r => rw [q] at hm; exact ⟨r, by rw [List.head?_cons] at hm; cases (beq_iff_eq.mp hm); rfl⟩
  exact fills_K X hcd hm hs
theorem inPy_own {M : Model} {h : Heap} (X : K.In h) {nm : String} (hs : findIn K (.ref C) (PySem.dunder nm) = some (some (.ref f))) (hr : findIn K (.ref C) (dunderR nm) = some (some (.ref g))) : Looks M h (numberSlotInPython (.ref C) nm) true := by
  intro A Q E s k q
  unfold numberSlotInPython
  refine wpAny_bind (looks_findIn X hs A _ E s k ?_)
  refine wpAny_bind (wpAny_pure ?_)
  refine wpAny_bind (looks_findIn X hr A _ E s k ?_)
  refine wpAny_bind (wpAny_pure ?_)
  exact wpAny_pure q
theorem tryOwnM {name : Str} {b : Value} {Q : Option Value → Shared → Prop} (X : K.In s.heap) (I : InstAt s.heap x ox C od) (hs : findIn K (.ref C) name = some (some (.ref f))) (hf : isFn K (.ref f) = true)
    (h : wpAny (model prog w) A (call (.ref f) [.ref x, b]) (PySem.W.CmpBack fun v => Q (some v)) E s) : wpAny (model prog w) A (tryMethod (.ref x) name b) Q E s := by
  unfold tryMethod
  refine wpAny_bind (special_fn X I hs (beq_iff_eq.mp hf) (wpAny_mono h (fun v s' hv => ?_) fun _ _ e => e))
  cases v <;> first | exact hv.elim | exact wpAny_pure hv
/-- an own one, then an int: its own def -/
theorem bo1_oi {nm : String} {tk : Option Value} {Q : Option Value → Shared → Prop} (X : K.In s.heap) (I : InstAt s.heap x ox C od) (hc : selfFirst K C = true) (hs : findIn K (.ref C) (PySem.dunder nm) = some (some (.ref f))) (hr : findIn K (.ref C) (dunderR nm) = some (some (.ref g))) (hf : isFn K (.ref f) = true)
    (hfi : fillsNumberSlot (.type "int") nm = pure true) (htk : typeLookup (.type "int") (dunderR nm) = pure tk) (hn : Looks (model prog w) s.heap (isSubtype (.type "int") (.ref C)) false)
    (h : wpAny (model prog w) A (call (.ref f) [.ref x, .int j t]) (PySem.W.CmpBack fun v => Q (some v)) E s) : wpAny (model prog w) A (binaryOp1 nm (.ref x) (.int j t)) Q E s := by
  have hne : (Value.ref C == Value.type "int") = false := rfl
  have hip : numberSlotInPython (.type "int") nm = pure false := rfl
  unfold binaryOp1
  refine wpAny_bind (I.type.here (wpAny_bind (wpAny_pure (wpAny_bind ((fills_own X hc hs).here ?_)))))
  simp only [hne, Bool.false_eq_true, if_false, hfi, pure_bind, Bool.and_self, if_true]
  refine wpAny_bind (hn.here ?_)
  simp only [Bool.false_eq_true, if_false, pure_bind, Bool.not_false, Bool.and_self, if_true]
  refine wpAny_bind ((inPy_own X hs hr).here ?_)
  simp only [if_true, hip, pure_bind, Bool.not_false, htk, if_true]
  refine wpAny_bind (tryOwnM X I hs hf (wpAny_mono h (fun v s' hv => ?_) fun _ _ e => e))
  cases v <;> first | exact hv.elim | exact wpAny_pure hv
/-- an int, then an own one: int declines, its own reflected def -/
theorem bo1_io {nm id : String} {ob : Obj} {Q : Option Value → Shared → Prop} (X : K.In s.heap) (I : InstAt s.heap x ox C od) (hc : selfFirst K C = true) (hs : findIn K (.ref C) (PySem.dunder nm) = some (some (.ref g))) (hr : findIn K (.ref C) (dunderR nm) = some (some (.ref f))) (hf : isFn K (.ref f) = true)
    (hfi : fillsNumberSlot (.type "int") nm = pure true) (hn : mroIn K C (.type "int") = some false) (hd : ∀ {Q : Option Value → Shared → Prop}, Q none s → wpAny (model prog w) A (tryMethod (.int j t) (PySem.dunder nm) (.ref x)) Q E s)
    (h : wpAny (model prog w) A (call (.ref f) [.ref x, .int j t]) (PySem.W.CmpBack fun v => Q (some v)) E s) : wpAny (model prog w) A (binaryOp1 nm (.int j t) (.ref x)) Q E s := by
  have hne : (Value.type "int" == Value.ref C) = false := rfl
  have hip : numberSlotInPython (.type "int") nm = pure false := rfl
  unfold binaryOp1
  refine wpAny_bind (wpAny_pure (wpAny_bind (I.type.here ?_)))
  simp only [hne, Bool.false_eq_true, if_false, hfi, pure_bind, Bool.and_self, if_true, Bool.true_and]
  refine wpAny_bind ((fills_own X hc hs).here ?_)
  simp only [if_true]
  refine wpAny_bind ((looks_mroIn X hn).here ?_)
  simp only [Bool.false_eq_true, if_false, pure_bind, Bool.not_false, Bool.and_self, if_true, hip]
  refine wpAny_bind (hd ?_)
  simp only [Bool.false_eq_true, if_false, pure_bind, Bool.not_false, Bool.and_self, if_true]
  refine wpAny_bind (tryOwnM X I hr hf (wpAny_mono h (fun v s' hv => ?_) fun _ _ e => e))
  cases v <;> first | exact hv.elim | exact wpAny_bind (wpAny_rule (wpAny_pure hv))
end
theorem tryD {prog : Program} {w : World} {A : Around} {E : Value → Shared → Prop} {s : Shared} {j : Int} {t : Tok} {nm : Str} {id : String} {b : Value} {Q : Option Value → Shared → Prop} (h : Slot "int" nm id)
    (hc : ∀ {Q : Value → Shared → Prop}, Q .notImplemented s → wpAny (model prog w) A (call (.builtin id) [.int j t, b]) Q E s) (q : Q none s) : wpAny (model prog w) A (tryMethod (.int j t) nm b) Q E s :=
  wpAny_tryMethod_declines (typeIs_int s j t) h (hc ⟨rfl, q⟩)
theorem cl_int_add {prog : Program} {w : World} {A : Around} {E : Value → Shared → Prop} {s : Shared} {a C dx : Addr} {sl : Array (Option Value)} {j : Int} {t : Tok} {Q : Value → Shared → Prop} (hl : s.heap.get? a = some { instObj C dx with slots := sl }) (q : Q .notImplemented s) :
    wpAny (model prog w) A (call (.builtin "int.__add__") [.int j t, .ref a]) Q E s :=
  call_meets PySem.F.slot_int_add (typeIs_int s j t) PySem.F.entry_int_add (PySem.F.args_int_add_2 _ _) (dec_int_add j t a C dx sl) ⟨hl, q⟩
theorem try_int_add {prog : Program} {w : World} {A : Around} {E : Value → Shared → Prop} {s : Shared} {a C dx : Addr} {sl : Array (Option Value)} {j : Int} {t : Tok} {Q : Option Value → Shared → Prop} (hl : s.heap.get? a = some { instObj C dx with slots := sl }) (q : Q none s) :
    wpAny (model prog w) A (tryMethod (.int j t) (PySem.dunder "add") (.ref a)) Q E s :=
  tryD (nm := PySem.dunder "add") (id := "int.__add__") PySem.F.slot_int_add (fun q => cl_int_add hl q) q
theorem cl_int_sub {prog : Program} {w : World} {A : Around} {E : Value → Shared → Prop} {s : Shared} {a C dx : Addr} {sl : Array (Option Value)} {j : Int} {t : Tok} {Q : Value → Shared → Prop} (hl : s.heap.get? a = some { instObj C dx with slots := sl }) (q : Q .notImplemented s) :
    wpAny (model prog w) A (call (.builtin "int.__sub__") [.int j t, .ref a]) Q E s :=
  call_meets PySem.F.slot_int_sub (typeIs_int s j t) PySem.F.entry_int_sub (PySem.F.args_int_sub_2 _ _) (dec_int_sub j t a C dx sl) ⟨hl, q⟩
theorem try_int_sub {prog : Program} {w : World} {A : Around} {E : Value → Shared → Prop} {s : Shared} {a C dx : Addr} {sl : Array (Option Value)} {j : Int} {t : Tok} {Q : Option Value → Shared → Prop} (hl : s.heap.get? a = some { instObj C dx with slots := sl }) (q : Q none s) :
    wpAny (model prog w) A (tryMethod (.int j t) (PySem.dunder "sub") (.ref a)) Q E s :=
  tryD (nm := PySem.dunder "sub") (id := "int.__sub__") PySem.F.slot_int_sub (fun q => cl_int_sub hl q) q
theorem cl_int_mul {prog : Program} {w : World} {A : Around} {E : Value → Shared → Prop} {s : Shared} {a C dx : Addr} {sl : Array (Option Value)} {j : Int} {t : Tok} {Q : Value → Shared → Prop} (hl : s.heap.get? a = some { instObj C dx with slots := sl }) (q : Q .notImplemented s) :
    wpAny (model prog w) A (call (.builtin "int.__mul__") [.int j t, .ref a]) Q E s :=
  call_meets PySem.F.slot_int_mul (typeIs_int s j t) PySem.F.entry_int_mul (PySem.F.args_int_mul_2 _ _) (dec_int_mul j t a C dx sl) ⟨hl, q⟩
theorem try_int_mul {prog : Program} {w : World} {A : Around} {E : Value → Shared → Prop} {s : Shared} {a C dx : Addr} {sl : Array (Option Value)} {j : Int} {t : Tok} {Q : Option Value → Shared → Prop} (hl : s.heap.get? a = some { instObj C dx with slots := sl }) (q : Q none s) :
    wpAny (model prog w) A (tryMethod (.int j t) (PySem.dunder "mul") (.ref a)) Q E s :=
  tryD (nm := PySem.dunder "mul") (id := "int.__mul__") PySem.F.slot_int_mul (fun q => cl_int_mul hl q) q
theorem cl_int_floordiv {prog : Program} {w : World} {A : Around} {E : Value → Shared → Prop} {s : Shared} {a C dx : Addr} {sl : Array (Option Value)} {j : Int} {t : Tok} {Q : Value → Shared → Prop} (hl : s.heap.get? a = some { instObj C dx with slots := sl }) (q : Q .notImplemented s) :
    wpAny (model prog w) A (call (.builtin "int.__floordiv__") [.int j t, .ref a]) Q E s :=
  call_meets PySem.F.slot_int_floordiv (typeIs_int s j t) PySem.F.entry_int_floordiv (PySem.F.args_int_floordiv_2 _ _) (dec_int_floordiv j t a C dx sl) ⟨hl, q⟩
theorem try_int_floordiv {prog : Program} {w : World} {A : Around} {E : Value → Shared → Prop} {s : Shared} {a C dx : Addr} {sl : Array (Option Value)} {j : Int} {t : Tok} {Q : Option Value → Shared → Prop} (hl : s.heap.get? a = some { instObj C dx with slots := sl }) (q : Q none s) :
    wpAny (model prog w) A (tryMethod (.int j t) (PySem.dunder "floordiv") (.ref a)) Q E s :=
  tryD (nm := PySem.dunder "floordiv") (id := "int.__floordiv__") PySem.F.slot_int_floordiv (fun q => cl_int_floordiv hl q) q
end WM
namespace WU
open PySem PySem.Spec PyProof.Rows L2 SlX
/-- x op y by x's own def: x an instance of C, y one too or an int -/
def rBoL (C : Addr) (sp : Sp) (E : XK) : R2 := fun x y H Q => ∃ a dx vs, x = .ref a ∧ Slt H a C dx vs ∧ ((∃ b dy ws, y = .ref b ∧ Slt H b C dy ws) ∨ ∃ j, y = .int j) ∧ sp [x, y] H Q E
/-- x op y by y's own reflected def: x an int, y an instance of C -/
def rBoR (C : Addr) (sp : Sp) (E : XK) : R2 := fun x y H Q => ∃ b dy ws j, y = .ref b ∧ Slt H b C dy ws ∧ x = .int j ∧ sp [y, x] H Q E
/-- what an operation asks of the class -/
structure BoC (K : PySem.W.Frag) (C : Addr) (nm : String) (f g : Addr) : Prop where
  sf : PySem.W.selfFirst K C = true
  l : PySem.W.findIn K (.ref C) (PySem.dunder nm) = some (some (.ref f))
  lf : PySem.W.isFn K (.ref f) = true
  r : PySem.W.findIn K (.ref C) (dunderR nm) = some (some (.ref g))
  rf : PySem.W.isFn K (.ref g) = true
  ni : PySem.W.subIn K (.type "int") (.ref C) = some false
  mi : PySem.W.mroIn K C (.type "int") = some false
/-- as OpR, told of the very slots -/
def OpS (X : Cx) (f : Value → Value → Sem Value) (r : L2.St → R2) : Prop :=
  ∀ (pins : List (Addr × Obj)) (s : Shared) (σ : L2.St) (H : Hp) (x y : V) (v u : Value) (Q : VK), Inv X pins σ H s → RelV x v → RelV y u → r σ x y H Q → wpAny (model X.prog X.w) X.A (f v u) (EP X pins σ Q) X.xe s
theorem pe_opS {X : Cx} {a b : Expr} {op : Operator} {pos : Pos} {ta tb : TE} {r : L2.St → R2} (ho : OpS X (binaryOp op) r) (ha : PE X a ta) (hb : PE X b tb) : PE X (.BinOp a op b pos) (fun σ H Q => ta σ H fun x H1 => tb σ H1 fun y H2 => r σ x y H2 Q) := by
  refine ⟨fun pins s σ H Q I h => ?_⟩
  refine wpAny_BinOp (thn (ha.run pins s σ H _ I h) fun v s1 ⟨x, H1, I1, r1, q1⟩ => ?_)
  exact thn (hb.run pins s1 σ H1 _ I1 q1) fun u s2 ⟨y, H2, I2, r2, q2⟩ => ho pins s2 σ H2 x y v u Q I2 r1 r2 q2
/-- an exception of a callee reaches what this body wants, told of the very slots -/
def PassesS (CX : CXT) (X : Cx) (E : L2.St → XK) : Prop := ∀ (pins : List (Addr × Obj)) (σ : L2.St) (H : Hp) (s : Shared) (e : Value) (s' : Shared), Inv X pins σ H s → CX X.stack H s (E σ) e s' → X.xe e s'
theorem passS {X : Cx} {W : WX} (tk : Takes X W) : PassesS (L2.CX X.prog X.w) X (fun σ cls d H => W cls d σ H) := fun _ σ _ _ e s' I c => tk e s' (XE.of_call I (fun _ _ _ h => h) c)
section
variable {X : Cx} {CX : CXT} {C f g : Addr} {n : Nat} {sp : Sp} {E : L2.St → XK} {op : Operator}
theorem run_S {pins : List (Addr × Obj)} {σ : L2.St} {H : Hp} {s : Shared} {Q : VK} {us : List Value} {vs : List V} (F : FnR X.prog X.w X.K X.mg X.base CX n f sp) (hr : Room n X.A) (hx : PassesS CX X E) (I : Inv X pins σ H s) (r : Vals vs us) (h : sp vs H Q (E σ)) :
    codeAny (model X.prog X.w) X.A (.call (.ref f) ⟨us, []⟩) (fun r s' => match r with | .ok (.ret v) => EP X pins σ Q v s' | .ok _ => False | .error e => X.xe e s') s := by
  refine codeAny_mono (F X.A X.stack s H us vs Q (E σ) hr I.env0 r h) fun r s' hq => ?_
  cases r with
  | error e => exact hx pins σ H s e s' I hq
  | ok fl =>
    cases fl with
    | ret u => exact I.after hq
    | next => exact False.elim hq
    | brk => exact False.elim hq
    | cont => exact False.elim hq
theorem op_boL {tk : Option Value} (c : BoC X.K C op.info.2 f g) (hfi : fillsNumberSlot (.type "int") op.info.2 = pure true) (htk : typeLookup (.type "int") (dunderR op.info.2) = pure tk) (F : FnR X.prog X.w X.K X.mg X.base CX n f sp) (hr : Room n X.A) (hx : PassesS CX X E) :
    OpS X (binaryOp op) (fun σ => rBoL C sp (E σ)) := by
  intro pins s σ H x y v u Q I rx ry h
  obtain ⟨a, dx, vs, rfl, ha, hy, q⟩ := h
  cases (show v = Value.ref a from rx)
  obtain ⟨sl, od, _, J, _⟩ := slt_inst I ha
  have run : wpAny (model X.prog X.w) X.A (call (.ref f) [.ref a, u]) (PySem.W.CmpBack (EP X pins σ Q)) X.xe s := wpAny_mono (wpAny_call (run_S (us := [.ref a, u]) (vs := [.ref a, y]) F hr hx I (.cons rfl (.cons ry .nil)) q)) (fun w s' z => by
    obtain ⟨z', H', I', rz, qz⟩ := z
    exact cmpback rz ⟨z', H', I', rz, qz⟩) fun _ _ x => x
  rcases hy with ⟨b, dy, ws, rfl, hb⟩ | ⟨j, rfl⟩
  · cases (show u = Value.ref b from ry)
    obtain ⟨sl2, od2, _, J2, _⟩ := slt_inst I hb
    obtain ⟨m, fr⟩ := I.fr
    exact PySem.W.binop_K fr I.mod.kin J J2.type c.sf c.l c.lf run
  · obtain ⟨t, rfl⟩ := (show ∃ t, u = Value.int j t from ry)
    unfold binaryOp
    refine wpAny_holding (wpAny_bind (WM.bo1_oi I.kIn J c.sf c.l c.r c.lf hfi htk (PySem.W.looks_subIn I.kIn c.ni) (wpAny_mono run (fun w s' z => ?_) fun _ _ x => x)))
    cases w <;> first | exact z.elim | exact wpAny_pure z
theorem op_boR (c : BoC X.K C op.info.2 f g) (hfi : fillsNumberSlot (.type "int") op.info.2 = pure true)
    (hd : ∀ {A : Around} {E : Value → Shared → Prop} {s : Shared} {a C dx : Addr} {sl : Array (Option Value)} {j : Int} {t : Tok} {Q : Option Value → Shared → Prop}, s.heap.get? a = some { PySem.W.instObj C dx with slots := sl } → Q none s → wpAny (model X.prog X.w) A (tryMethod (.int j t) (PySem.dunder op.info.2) (.ref a)) Q E s)
    (F : FnR X.prog X.w X.K X.mg X.base CX n g sp) (hr : Room n X.A) (hx : PassesS CX X E) : OpS X (binaryOp op) (fun σ => rBoR C sp (E σ)) := by
  intro pins s σ H x y v u Q I rx ry h
  obtain ⟨a, dx, vs, j, rfl, ha, rfl, q⟩ := h
  cases (show u = Value.ref a from ry)
  obtain ⟨t, rfl⟩ := (show ∃ t, v = Value.int j t from rx)
  obtain ⟨sl, od, _, J, _⟩ := slt_inst I ha
  have run : wpAny (model X.prog X.w) X.A (call (.ref g) [.ref a, .int j t]) (PySem.W.CmpBack (EP X pins σ Q)) X.xe s := wpAny_mono (wpAny_call (run_S (us := [.ref a, .int j t]) (vs := [.ref a, .int j]) F hr hx I (.cons rfl (.cons rx .nil)) q)) (fun w s' z => by
    obtain ⟨z', H', I', rz, qz⟩ := z
    exact cmpback rz ⟨z', H', I', rz, qz⟩) fun _ _ x => x
  unfold binaryOp
  refine wpAny_holding (wpAny_bind (WM.bo1_io (id := "") (ob := default) I.kIn J c.sf c.l c.r c.rf hfi c.mi (fun q => hd J.at_ q) (wpAny_mono run (fun w s' z => ?_) fun _ _ x => x)))
  cases w <;> first | exact z.elim | exact wpAny_pure z
end
section
variable {X : Cx} {CX : CXT} {C f g : Addr} {n : Nat} {sp : Sp} {E : XK} {op : Operator}
/-- op x by its own def -/
def rUn1 (C : Addr) (sp : Sp) (E : XK) : V → Hp → VK → Prop := fun x H Q => ∃ a dx vs, x = .ref a ∧ Slt H a C dx vs ∧ sp [x] H Q E
theorem un_negOwn (hs : PySem.W.findIn X.K (.ref C) "__neg__" = some (some (.ref f))) (hf : PySem.W.isFn X.K (.ref f) = true) (F : FnR X.prog X.w X.K X.mg X.base CX n f sp) (hr : Room n X.A) (hx : Passes CX X E) : UnR X (unaryOp .USub) (rUn1 C sp E) := by
  intro pins s σ H x v Q I rx h
  obtain ⟨a, dx, vs, rfl, ha, q⟩ := h
  cases (show v = Value.ref a from rx)
  obtain ⟨sl, od, _, J, _⟩ := slt_inst I ha
  unfold unaryOp
  refine wpAny_holding ?_
  show wpAny _ _ (callSpecial? (.ref a) "__neg__" >>= _) _ _ _
  refine wpAny_bind (PySem.W.special_fn I.kIn J hs (beq_iff_eq.mp hf) (wpAny_mono (wpAny_call (run_fnR (us := [.ref a]) (vs := [.ref a]) F hr hx I (.cons rfl .nil) q)) (fun w s' z => ?_) fun _ _ x => x))
  exact wpAny_pure z
/-- abs(x) by its own def -/
def rAbs1 (C : Addr) (sp : Sp) (E : XK) : List V → Hp → VK → Prop := fun xs H Q => ∃ x a dx vs, xs = [x] ∧ x = .ref a ∧ Slt H a C dx vs ∧ sp [x] H Q E
theorem call_absOwn (hs : PySem.W.findIn X.K (.ref C) "__abs__" = some (some (.ref f))) (hf : PySem.W.isFn X.K (.ref f) = true) (F : FnR X.prog X.w X.K X.mg X.base CX n f sp) (hr : Room (n + 1) X.A) (hx : Passes CX X E) : CallR X (.builtin "abs") (rAbs1 C sp E) := by
  intro pins s σ H xs us Q I r h
  obtain ⟨x, a, dx, vs, rfl, rfl, ha, q⟩ := h
  obtain ⟨u, rfl, ru⟩ := r.one
  cases (show u = Value.ref a from ru)
  obtain ⟨sl, od, _, J, _⟩ := slt_inst I ha
  refine Calls.call_function_entry PyProof.Rows.kind_abs PyProof.Rows.plain_abs PyProof.Rows.entry_abs (PyProof.Rows.args_abs _) ?_
  unfold Builtin.«abs»
  refine wpAny_bind (m := oneArg "abs" _) (wpAny_pure ?_)
  refine wpAny_bind (m := callSpecial? (.ref a) (Str.ofString "__abs__")) (PySem.W.special_fn I.kIn J hs (beq_iff_eq.mp hf) (wpAny_mono (wpAny_call (run_at (us := [.ref a]) (ws := [.ref a]) F hr.in1 I.env0.in1 hx I (.cons rfl .nil) q)) (fun w s' z => ?_) fun _ _ x => x))
  exact wpAny_pure ⟨_, rfl, z⟩
/-- a def that may let an exception out, called by its name -/
structure CalX (P : Program) (w : World) (K : PySem.W.Frag) (mg : Str → Option Value) (base : Heap) (k : Nat) (x : Str) (sp : Sp) (dvs : List V) : Prop where
  ex : ∃ (f : Addr) (fd : FuncData) (ps : List Str) (ds : List Value), FnOk P w K mg base (L2.CX P w) k f fd ps sp ∧ mg x = some (.ref f) ∧ PySem.W.keepIn K (.ref f) = true ∧ Binds K fd ps ds ∧ Vals dvs ds
theorem pe_calX {X : Cx} {k j : Nat} {x : Str} {sp : Sp} {dvs : List V} {p pos : Pos} {e : Expr} {es : List Expr} {t : TA} {E : L2.St → XK} (c : CalX X.prog X.w X.K X.mg X.base k x sp dvs) (hr : Room j X.A) (hk : k ≤ j) (hg : Gl X x) (hx : PassesS (L2.CX X.prog X.w) X E) (ha : PA X (e :: es) t)
    (hdb : (x == ("__debug__" : Str)) = false := by decide) (he : starEach (e :: es) X.env = (false, eval e X.env) :: starEach es X.env := by rfl) (hpl : (backTo pos (starEach es X.env)).any (·.1) = false := by rfl) :
    PE X (.Call (.Name x p) (e :: es) [] pos) (fun σ H Q => t σ H fun vs H1 => sp (vs ++ dvs) H1 Q (E σ)) := by
  obtain ⟨f, fd, ps, ds, F, hm, kp, b, d⟩ := c.ex
  refine ⟨fun pins s σ H Q I h => ?_⟩
  refine wpAny_Call_Name_kw (ld_glob I hg hm ?_ hdb)
  refine PySem.W.callWith_K (h₀ := X.base) I.ok.mod.kin kp (thn (ha.run pos pins s σ H _ I h) fun us s1 ⟨vs, H1, I1, r, q⟩ => ⟨I1.kIn, ?_⟩) he hpl
  have r2 : Vals (vs ++ dvs) (us ++ ds) := r.append d
  have hl : (us ++ ds).length = ps.length := by rw [← r2.length]; exact F.len _ _ _ _ q
  refine wpAny_call (codeAny_mono (F.run X.A X.stack s1 H1 ⟨us, []⟩ (us ++ ds) (vs ++ dvs) Q (E σ) (hr.mono hk) I1.env0 (b s1 us I1.kIn hl) r2 q) fun r s' hq => ?_)
  cases r with
  | error e => exact hx pins σ H1 s1 e s' I1 hq
  | ok fl =>
    cases fl with
    | ret u => exact I1.after hq
    | next => exact False.elim hq
    | brk => exact False.elim hq
    | cont => exact False.elim hq
/-- an error class by its name -/
structure Exn (P : Program) (K : PySem.W.Frag) (mg : Str → Option Value) (x : Str) (C D f : Addr) : Prop where
  er : ErC P K mg D f
  me : MeC K C D f
  g : mg x = some (.ref C)
  k : ErK K C
end
end WU

/-! Properties of amounts. -/
namespace WU
open PySem PySem.Spec PyProof.Rows L2 SlX
def sp_pn (C : Addr) : Sp := fun vs H Q _ => ∃ (v : V) (n d : Int), vs = [v] ∧ Am C H v n d ∧ Q (.int n) H
def sp_pd (C : Addr) : Sp := fun vs H Q _ => ∃ (v : V) (n d : Int), vs = [v] ∧ Am C H v n d ∧ Q (.int d) H
/-- a property of the class C -/
structure PrC (P : Program) (w : World) (K : PySem.W.Frag) (mg : Str → Option Value) (base : Heap) (C : Addr) (f : Str) (n : Nat) (sp : Sp) : Prop where
  cl : SCls K C
  ex : ∃ p g : Addr, PySem.W.findIn K (.ref C) f = some (some (.ref p)) ∧ PySem.W.specialIn K (.ref p) "__get__" = some (some (.builtin "property.__get__")) ∧ PySem.W.takesIn K (.ref p) = some true ∧ (∃ rest, PySem.W.recIn K p "property" = some (.ref g :: rest)) ∧ FnR P w K mg base CX0 n g sp
section
variable {X : Cx} {C : Addr} {e : Expr} {ta : TE} {pos : Pos} {n : Nat} {f : Str}
theorem pe_pnum (c : PrC X.prog X.w X.K X.mg X.base C f n (sp_pn C)) (hr : Room (n + 1) X.A) (he : PE X e ta) (hb : attributeBase e f X.env (eval e X.env) = eval e X.env := by rfl) : PE X (.Attribute e f pos) (tNum C ta) := by
  obtain ⟨p, g, h1, h2, h3, h4, F⟩ := c.ex
  refine ⟨fun pins s σ H Q I h => (attr_of hb (thn (he.run pins s σ H _ I h) fun u s1 ⟨x, H1, I1, rx, n, d, am, q⟩ => ?_))⟩
  obtain ⟨a, dx, rfl, hs⟩ := am.slt
  obtain rfl : u = Value.ref a := rx
  exact getprop_sl (E := E0) I1 hs c.cl h1 h2 h3 h4 F hr (fun _ _ _ _ h => h) ⟨_, _, _, rfl, am, q⟩
theorem pe_pden (c : PrC X.prog X.w X.K X.mg X.base C f n (sp_pd C)) (hr : Room (n + 1) X.A) (he : PE X e ta) (hb : attributeBase e f X.env (eval e X.env) = eval e X.env := by rfl) : PE X (.Attribute e f pos) (tDen C ta) := by
  obtain ⟨p, g, h1, h2, h3, h4, F⟩ := c.ex
  refine ⟨fun pins s σ H Q I h => (attr_of hb (thn (he.run pins s σ H _ I h) fun u s1 ⟨x, H1, I1, rx, n, d, am, q⟩ => ?_))⟩
  obtain ⟨a, dx, rfl, hs⟩ := am.slt
  obtain rfl : u = Value.ref a := rx
  exact getprop_sl (E := E0) I1 hs c.cl h1 h2 h3 h4 F hr (fun _ _ _ _ h => h) ⟨_, _, _, rfl, am, q⟩
end
end WU

namespace Lw
open PySem PySem.Spec PyProof.Rows L2 SlX WU
open Evl (Ex)
def top (i : Nat) : Stmt := PySem.Challenge.pw_whoseuse_k02_sums_products_and_quotients.main.body.getD i (.Pass ⟨0, 0, 0, 0⟩)
structure Txt (K : PySem.W.Frag) (mg : Str → Option Value) (CA p0 p1 : Addr) : Prop where
  am : AmC K CA p0 p1
  g_Amount : ∃ u, mg "Amount" = some u ∧ RelV (.ref CA) u
  z_int : mg "int" = none
  z_bool : mg "bool" = none
  z_isinstance : mg "isinstance" = none
  z_abs : mg "abs" = none
  z_len : mg "len" = none
  z_range : mg "range" = none
  z_max : mg "max" = none
  z_min : mg "min" = none
  z_all : mg "all" = none
  z_repr : mg "repr" = none
section
variable {P : Program} {w : World} {K : PySem.W.Frag} {mg : Str → Option Value} {base : Heap} {CA p0 p1 CQ CM fM : Addr}
/-! ### plain.is_integer -/
abbrev s_is_integer : Stmt := top 7
abbrev N_is_integer : List Str := ["value"]
theorem sc_is_integer : FnScope N_is_integer ["value"] (defScope s_is_integer) := ⟨rfl, rfl, rfl, by decide +kernel, rfl, by decide +kernel, by decide +kernel⟩
def sp_is_integer (K : PySem.W.Frag) (CA : Addr) : Sp := fun vs H Q _ => ∃ v k, vs = [v] ∧ TyW K H v (tyk CA k) ∧ Q (.bl (decide (k = .int))) H
theorem ok_is_integer {f : Addr} {fd : FuncData} (F : L2.Fun K "is_integer" "is_integer" s_is_integer f fd) (T : Txt K mg CA p0 p1) : FnOk P w K mg base CX0 1 f fd ["value"] (sp_is_integer K CA) := by
  refine F.ok sc_is_integer (fun vs H Q E h => ?_) (fun cdv A outer s H vs Q E hr h => ?_)
  · obtain ⟨v, k, rfl, _⟩ := h
    rfl
  · obtain ⟨v, k, rfl, ty, q⟩ := h
    refine ⟨_, (pss_one (ps_ret (pe_and (pe_callB call_isW (by rfl) T.z_isinstance (by decide +kernel) (pa_cons (pv 0) (pa_cons (pe_bltn (v := .ty "int") (u := .type "int") rfl T.z_int (by decide +kernel) rfl) pa_nil))) (pe_one (pe_not (pe_callB call_isW (by rfl) T.z_isinstance (by decide +kernel) (pa_cons (pv 0) (pa_cons (pe_bltn (v := .ty "bool") (u := .type "bool") rfl T.z_bool (by decide +kernel) rfl) pa_nil)))))))), ?_⟩
    refine ⟨_, rfl, _, _, _, _, _, rfl, .ty "int", ty, T.am.kit_int k, _, rfl, ?_⟩
    by_cases hk : k = .int ∨ k = .bool
    · rw [if_pos (decide_eq_true hk)]
      refine ⟨_, rfl, _, _, _, _, _, rfl, .ty "bool", ty, T.am.kit_bool k, _, rfl, ?_⟩
      have e : (!decide (k = .bool)) = decide (k = Kd.int) := by rcases hk with rfl | rfl <;> decide
      rw [e]
      exact q
    · rw [if_neg (by simpa using hk)]
      have e : decide (k = Kd.int) = false := by simp at hk; simp [hk.1]
      rw [e] at q
      exact q
/-! ### amounts.shared_by -/
abbrev s_shared_by : Stmt := top 10
abbrev N_shared_by : List Str := ["one", "other"]
theorem sc_shared_by : FnScope N_shared_by ["one", "other"] (defScope s_shared_by) := ⟨rfl, rfl, rfl, by decide +kernel, rfl, by decide +kernel, by decide +kernel⟩
def sp_shared_by : Sp := fun vs H Q _ => ∃ a b : Int, vs = [.int a, .int b] ∧ 0 ≤ a ∧ 0 ≤ b ∧ Q (.int (Nat.gcd a.natAbs b.natAbs : Nat)) H
theorem ok_shared_by {f : Addr} {fd : FuncData} (F : L2.Fun K "shared_by" "shared_by" s_shared_by f fd) (T : Txt K mg CA p0 p1) : FnOk P w K mg base CX0 1 f fd ["one", "other"] sp_shared_by := by
  refine F.ok sc_shared_by (fun vs H Q E h => ?_) (fun cdv A outer s H vs Q E hr h => ?_)
  · obtain ⟨a, b, rfl, _⟩ := h
    rfl
  · obtain ⟨a, b, rfl, ha, hb, q⟩ := h
    refine ⟨_, (pss_cons (ps_while PassesOwn.never (pt_cmpR op_ne (pv 1) pe_int (nomark _)) (pss_one (ps_par (i := 0) (j := 1) rfl sc_shared_by.nd rfl rfl (by decide) rfl rfl (pa_cons (pv 1) (pa_cons (pe_op op_mod (pe_callTy call_int1 (by rfl) T.z_int (by decide +kernel) (pa_cons (pv 0) pa_nil)) (pv 1)) pa_nil)) rfl)))
      (pss_one (ps_ret (pv 0)))), ?_⟩
    refine while_a (fun m σ H' => ∃ x y : Int, σ = [some (.int x), some (.int y)] ∧ H' = H ∧ 0 ≤ x ∧ 0 ≤ y ∧ m = y.toNat ∧ Nat.gcd x.natAbs y.natAbs = Nat.gcd a.natAbs b.natAbs) b.toNat ⟨a, b, rfl, rfl, ha, hb, rfl, rfl⟩ ?_
    rintro m σ H' ⟨x, y, rfl, rfl, hx, hy, rfl, e⟩
    refine ⟨!decide (V.int y = V.int 0), fun Q q => ⟨_, rfl, rfl, _, rfl, q⟩, fun hb N hN => ?_, fun hb => ?_⟩
    · have hy0 : y ≠ 0 := fun z => by subst z; simp at hb
      refine ⟨_, rfl, _, rfl, .inl ⟨_, rfl, _, rfl, _, _, rfl, rfl, by show (0 : Int) < y; omega, _, _, rfl, ?_⟩⟩
      have e2 : x % y = x.fmod y := (Int.fmod_eq_emod_of_nonneg x hy).symm
      refine hN (x % y).toNat _ _ ?_ ⟨y, x % y, rfl, rfl, hy, Int.emod_nonneg _ hy0, rfl, ?_⟩
      · have := Int.emod_lt_of_pos x (show 0 < y by omega)
        have := Int.emod_nonneg x hy0
        omega
      · rw [e2, FrM.gcd_turn hx (by omega)]
        exact e
    · have hy0 : y = 0 := by simpa using hb
      subst hy0
      refine ⟨_, rfl, ?_⟩
      have e3 : (x : Int) = ((Nat.gcd a.natAbs b.natAbs : Nat) : Int) := by
        rw [← e]
        simp
        omega
      show Q (.int x) _
      rw [e3]
      exact q
/-! ### Amount.__init__ -/
abbrev s_Amount_init : Stmt := inClass (top 11) 1
abbrev N_Amount_init : List Str := ["self", "number", "under", "by"]
theorem sc_Amount_init : FnScope N_Amount_init ["self", "number", "under"] (defScope s_Amount_init) := ⟨rfl, rfl, rfl, by decide +kernel, rfl, by decide +kernel, by decide +kernel⟩
def sp_init (CA : Addr) : Sp := fun vs H Q _ => ∃ (x dx : Addr) (n u : Int), vs = [.ref x, .int n, .int u] ∧ H x = some (.ins CA dx []) ∧ H dx = some (.own x) ∧ dx ≠ x ∧ u ≠ 0 ∧ u.natAbs < 2 ^ 9000 ∧
  ∀ H', (∀ b o, b ≠ x → b ≠ dx → H b = some o → H' b = some o) → H' x = some (SlO x CA dx [some (.int (FrM.num n u)), some (.int (FrM.den n u))]) → H' dx = some (.xd []) → Q .non H'
theorem log2_9000 {u : Int} (h : u.natAbs < 2 ^ 9000) : u.natAbs.log2 < 9000 := PySem.Flt.log2_lt_of (by decide) h
theorem ok_init {f : Addr} {fd : FuncData} (F : FunD K "__init__" "Amount.__init__" (defArgs s_Amount_init) (defBody s_Amount_init) (defScope s_Amount_init) [V.int 1] [] f fd) (T : Txt K mg CA p0 p1)
    (c_is_integer : Cal P w K mg base 1 "is_integer" (sp_is_integer K CA) []) (c_shared_by : Cal P w K mg base 1 "shared_by" sp_shared_by []) : FnOk P w K mg base CX0 2 f fd ["self", "number", "under"] (sp_init CA) := by
  refine F.ok sc_Amount_init (fun vs H Q E h => ?_) (fun cdv A outer s H vs Q E hr h => ?_)
  · obtain ⟨x, dx, n, u, rfl, _⟩ := h
    rfl
  · obtain ⟨x, dx, n, u, rfl, hx, hdx, hne, hu, hb, q⟩ := h
    refine ⟨_, PSs.nox (pss_cons (ps_if (PW.pt (pw_or (pt_not (pt_val (pe_cal c_is_integer hr (by decide) rfl (pa_cons (pv 1) pa_nil)))) (pw_or (pt_not (pt_val (pe_cal c_is_integer hr (by decide) rfl (pa_cons (pv 2) pa_nil)))) (pw_or1 (pt_cmpR op_eq (pv 2) pe_int (nomark _)))))) (pss_one ps_never) pss_nil)
      (pss_cons (ps_set (i := 3) sc_Amount_init.nd rfl (Or.inl rfl) (pe_op op_mul (pe_cal c_shared_by hr (by decide) rfl (pa_cons (pe_callB call_abs (by rfl) T.z_abs (by decide +kernel) (pa_cons (pv 1) pa_nil)) (pa_cons (pe_callB call_abs (by rfl) T.z_abs (by decide +kernel) (pa_cons (pv 2) pa_nil)) pa_nil))) (pe_ifExp (pt_cmpR op_gt (pv 2) pe_int (nomark _)) pe_int (pe_un un_neg pe_int))))
      (pss_one (ps_asg (pe_tup (pa_cons (pe_op op_fdivX (pv 1) (pv 3)) (pa_cons (pe_op op_fdivX (pv 2) (pv 3)) pa_nil))) (pg_tup rfl (pgs_cons (pg_sl (pv 0)) (pgs_cons (pg_sl (pv 0)) pgs_nil))))))), ?_⟩
    refine ⟨_, rfl, _, .int, rfl, .b (.int n), _, rfl, ?_⟩
    refine iteF ?_
    refine ⟨_, rfl, _, .int, rfl, .b (.int u), _, rfl, ?_⟩
    refine iteF ?_
    refine ⟨_, rfl, rfl, _, rfl, ?_⟩
    refine iteN (decide_eq_false fun z => hu (V.int.inj z)) ?_
    refine ⟨_, rfl, _, rfl, _, rfl, _, rfl, (n.natAbs : Int), (u.natAbs : Int), by show [V.int _, V.int _] = _; rw [abs_eq, abs_eq], by omega, by omega, ?_⟩
    have eg : ((Nat.gcd ((n.natAbs : Int)).natAbs ((u.natAbs : Int)).natAbs : Nat) : Int) = (FrM.g n u : Int) := by
      unfold FrM.g
      rw [Int.natAbs_natCast, Int.natAbs_natCast]
    have hg : 0 < FrM.g n u := FrM.g_pos hu
    have hgl : FrM.g n u ≤ u.natAbs := FrM.g_le hu
    have fin : ∀ sg : Int, sg = (if 0 < u then 1 else -1) → ∀ by_ : Int, by_ = (FrM.g n u : Int) * sg → (tAsg (tTup (tCons (tOp (rI CDivX fun i j => V.int (i.fdiv j)) (tVar 1) (tVar 3)) (tCons (tOp (rI CDivX fun i j => V.int (i.fdiv j)) (tVar 2) (tVar 3)) tNil)))
        (gTup K 2 (gCons (gSl K (tVar 0) "own_number") (gCons (gSl K (tVar 0) "own_under") gNil)))) { nx := fun x H' => Q V.non H', rt := Q } [some (.ref x), some (.int n), some (.int u), some (.int by_)] H := by
      intro sg esg by_ eby
      have hb0 : by_ ≠ 0 := by
        subst eby esg
        split
        · omega
        · rw [Int.mul_neg]
          omega
      have hbl : by_.natAbs.log2 < 9000 := by
        refine log2_9000 (Nat.lt_of_le_of_lt ?_ hb)
        subst eby esg
        rw [Int.natAbs_mul, Int.natAbs_natCast]
        split <;> simpa using hgl
      refine ⟨_, rfl, _, rfl, _, _, rfl, rfl, ⟨hb0, hbl⟩, _, rfl, _, rfl, _, _, rfl, rfl, ⟨hb0, hbl⟩, by show 2 ≤ sizeLine; decide, fun p hp => ?_⟩
      have nx : x ≠ p := ne_of_none hx hp
      have nd : dx ≠ p := ne_of_none hdx hp
      refine ⟨p, _, rfl, SqT.of upd_same, rfl, _, _, rfl, _, rfl, x, CA, dx, p0, [], 0, rfl, .inl ⟨by rw [upd_ne nx]; exact hx, rfl⟩, T.am.own.cl, T.am.s0, _, _, rfl, _, rfl, x, CA, dx, p1, _, 1, rfl, slH_slt hne, T.am.own.cl, T.am.s1, rfl, ?_⟩
      refine q _ (fun b o n1 n2 e => ?_) ?_ ?_
      · rw [slH_ne n1 n2, slH_ne n1 n2, upd_ne (ne_of_none e hp)]
        exact e
      · subst eby esg
        refine Eq.trans upd_same ?_
        show some (SlO x CA dx [some (V.int (n.fdiv _)), some (V.int (u.fdiv _))]) = _
        rw [FrM.num_fdiv hu, FrM.den_fdiv hu]
      · unfold slH
        rw [upd_ne hne, upd_same]
    refine ⟨_, rfl, _, _, rfl, rfl, _, rfl, ?_⟩
    refine ite2 (fun h1 => ?_) (fun h1 => ?_)
    · refine ⟨_, _, rfl, rfl, .inr ⟨by decide, by decide⟩, ?_⟩
      exact fin 1 (if_pos (of_decide_eq_true h1)).symm _ (by rw [eg])
    · refine ⟨_, rfl, _, _, rfl, rfl, .inr ⟨by decide, by decide⟩, ?_⟩
      exact fin (-1) (if_neg fun z => h1 (decide_eq_true z)).symm _ (by rw [eg])
/-- what Amount(n, u) comes to: a new amount in least terms -/
theorem init_use {H : Hp} {n u : Int} {R : VK} {E : XK} {x dx : Addr} (hx : H x = none) (hdx : H dx = none) (hne : dx ≠ x) (hu : u ≠ 0) (hb : u.natAbs < 2 ^ 9000) (q : ∀ H', Ex H H' → Am CA H' (.ref x) (FrM.num n u) (FrM.den n u) → R .non H') :
    sp_init CA [.ref x, .int n, .int u] (upd (upd H dx (.own x)) x (.ins CA dx [])) R E := by
  refine ⟨x, dx, n, u, rfl, upd_same, by rw [upd_ne hne, upd_same], hne, hu, hb, fun H' k h1 h2 => q H' (fun a o e => ?_) ⟨x, dx, rfl, h1, h2⟩⟩
  have na := ne_of_none e hx
  have nd := ne_of_none e hdx
  refine k a o na nd ?_
  rw [upd_ne na, upd_ne nd]
  exact e
/-! ### is_amount, amount_of, sign_beside -/
abbrev s_is_amount : Stmt := top 12
abbrev N_is_amount : List Str := ["value"]
theorem sc_is_amount : FnScope N_is_amount ["value"] (defScope s_is_amount) := ⟨rfl, rfl, rfl, by decide +kernel, rfl, by decide +kernel, by decide +kernel⟩
def sp_is_amount (K : PySem.W.Frag) (CA : Addr) : Sp := fun vs H Q _ => ∃ v k, vs = [v] ∧ TyW K H v (tyk CA k) ∧ Q (.bl (decide (k = .int ∨ k = .amt))) H
theorem ok_is_amount {f : Addr} {fd : FuncData} (F : L2.Fun K "is_amount" "is_amount" s_is_amount f fd) (T : Txt K mg CA p0 p1) (c_is_integer : Cal P w K mg base 1 "is_integer" (sp_is_integer K CA) []) : FnOk P w K mg base CX0 2 f fd ["value"] (sp_is_amount K CA) := by
  refine F.ok sc_is_amount (fun vs H Q E h => ?_) (fun cdv A outer s H vs Q E hr h => ?_)
  · obtain ⟨v, k, rfl, _⟩ := h
    rfl
  · obtain ⟨v, k, rfl, ty, q⟩ := h
    refine ⟨_, (pss_one (ps_ret (pe_or (pe_cal c_is_integer hr (by decide) rfl (pa_cons (pv 0) pa_nil)) (pe_one (pe_callB call_isW (by rfl) T.z_isinstance (by decide +kernel) (pa_cons (pv 0) (pa_cons (pe_gc rfl T.g_Amount) pa_nil))))))), ?_⟩
    refine ⟨_, rfl, _, k, rfl, ty, _, rfl, ?_⟩
    by_cases hk : k = .int
    · refine iteY (decide_eq_true hk) ?_
      rw [dec_t (Or.inl hk)] at q
      exact q
    · refine iteN (decide_eq_false hk) ?_
      refine ⟨_, rfl, _, _, _, _, _, rfl, .own CA, ty, T.am.kit_me k, ?_⟩
      have e : decide (k = Kd.int ∨ k = .amt) = decide (k = .amt) := by simp [hk]
      rw [e] at q
      exact q
abbrev s_amount_of : Stmt := top 13
abbrev N_amount_of : List Str := ["value"]
theorem sc_amount_of : FnScope N_amount_of ["value"] (defScope s_amount_of) := ⟨rfl, rfl, rfl, by decide +kernel, rfl, by decide +kernel, by decide +kernel⟩
/-- an int, or an amount -/
def IsA (CA : Addr) (H : Hp) (v : V) (n d : Int) : Prop := (v = .int n ∧ d = 1) ∨ Am CA H v n d
def sp_amount_of (CA : Addr) : Sp := fun vs H Q _ => ∃ v n d, vs = [v] ∧ IsA CA H v n d ∧ ∀ v' H', Ex H H' → Am CA H' v' n d → Q v' H'
theorem ok_amount_of {f : Addr} {fd : FuncData} (F : L2.Fun K "amount_of" "amount_of" s_amount_of f fd) (T : Txt K mg CA p0 p1) (m_Amount1 : Mak P w K mg base 2 "Amount" CA (sp_init CA) [.int 1]) : FnOk P w K mg base CX0 4 f fd ["value"] (sp_amount_of CA) := by
  refine F.ok sc_amount_of (fun vs H Q E h => ?_) (fun cdv A outer s H vs Q E hr h => ?_)
  · obtain ⟨v, n, d, rfl, _⟩ := h
    rfl
  · obtain ⟨v, n, d, rfl, hv, q⟩ := h
    refine ⟨_, (pss_one (ps_ret (pe_ifExp (pt_val (pe_callB call_isW (by rfl) T.z_isinstance (by decide +kernel) (pa_cons (pv 0) (pa_cons (pe_bltn (v := .ty "int") (u := .type "int") rfl T.z_int (by decide +kernel) rfl) pa_nil)))) (pe_mak m_Amount1 hr (by decide) rfl (pa_cons (pv 0) pa_nil)) (pv 0)))), ?_⟩
    rcases hv with ⟨rfl, rfl⟩ | hv
    · refine ⟨_, rfl, _, _, _, _, _, rfl, .ty "int", .b (.int n), T.am.kit_int .int, _, rfl, ?_⟩
      refine iteY rfl ?_
      refine ⟨_, rfl, fun x dx hx hdx hne => init_use hx hdx hne (by decide) (by decide +kernel) fun H' e a => ⟨rfl, ?_⟩⟩
      rw [FrM.num_one, FrM.den_one] at a
      exact q _ H' e a
    · refine ⟨_, rfl, _, _, _, _, _, rfl, .ty "int", hv.ty T.am, T.am.kit_int .amt, _, rfl, ?_⟩
      refine iteN rfl ?_
      exact ⟨_, rfl, q v H (fun _ _ e => e) hv⟩
abbrev s_sign_beside : Stmt := top 14
abbrev N_sign_beside : List Str := ["one", "other", "its"]
theorem sc_sign_beside : FnScope N_sign_beside ["one", "other"] (defScope s_sign_beside) := ⟨rfl, rfl, rfl, by decide +kernel, rfl, by decide +kernel, by decide +kernel⟩
def sp_sign (CA : Addr) : Sp := fun vs H Q _ => ∃ v v' n d n' d', vs = [v, v'] ∧ Am CA H v n d ∧ IsA CA H v' n' d' ∧ n.natAbs < 2 ^ 4000 ∧ d.natAbs < 2 ^ 4000 ∧ n'.natAbs < 2 ^ 4000 ∧ d'.natAbs < 2 ^ 4000 ∧ ∀ H', Ex H H' → Q (.int (n * d' - n' * d)) H'
theorem mulW {i j : Int} (ha : i.natAbs < 2 ^ 4000) (hb : j.natAbs < 2 ^ 4000) : CMulW i j := wide_mul ha hb (by decide) (by decide) (by decide)
/-- e.f of an amount: its number, its under -/
theorem ok_sign_beside {f : Addr} {fd : FuncData} (F : L2.Fun K "sign_beside" "sign_beside" s_sign_beside f fd) (T : Txt K mg CA p0 p1) (c_amount_of : Cal P w K mg base 4 "amount_of" (sp_amount_of CA) []) : FnOk P w K mg base CX0 5 f fd ["one", "other"] (sp_sign CA) := by
  refine F.ok sc_sign_beside (fun vs H Q E h => ?_) (fun cdv A outer s H vs Q E hr h => ?_)
  · obtain ⟨v, v', n, d, n', d', rfl, _⟩ := h
    rfl
  · obtain ⟨v, v', n, d, n', d', rfl, hv, hv', b1, b2, b3, b4, q⟩ := h
    refine ⟨_, (pss_cons (ps_set (i := 2) sc_sign_beside.nd rfl (Or.inl rfl) (pe_cal c_amount_of hr (by decide) rfl (pa_cons (pv 1) pa_nil)))
      (pss_one (ps_ret (pe_op op_sub (pe_op op_mulW (pe_num T.am (pv 0)) (pe_den T.am (pv 2))) (pe_op op_mulW (pe_num T.am (pv 2)) (pe_den T.am (pv 0))))))), ?_⟩
    refine ⟨_, rfl, _, _, _, rfl, hv', fun x H1 e1 a1 => ?_⟩
    have a0 := hv.ext e1
    refine ⟨_, rfl, _, _, a0, _, rfl, _, _, a1, _, _, rfl, rfl, mulW b1 b4, ?_⟩
    refine ⟨_, rfl, _, _, a1, _, rfl, _, _, a0, _, _, rfl, rfl, mulW b3 b2, ?_⟩
    exact ⟨_, _, rfl, rfl, q H1 e1⟩
/-! ### sums, products -/
/-- bounds of operands -/
structure Opd (n d : Int) : Prop where
  bn : n.natAbs < 2 ^ 900
  bd : d.natAbs < 2 ^ 900
  nz : d ≠ 0
theorem pow_mul {a b : Nat} {x y : Int} (hx : x.natAbs < 2 ^ a) (hy : y.natAbs < 2 ^ b) : (x * y).natAbs < 2 ^ (a + b) := by
  rw [Int.natAbs_mul, Nat.pow_add]
  exact Nat.mul_lt_mul'' hx hy
theorem mul9 {i j : Int} (ha : i.natAbs < 2 ^ 900) (hb : j.natAbs < 2 ^ 900) : CMulW i j := wide_mul ha hb (by decide) (by decide) (by decide)
theorem mul18 {i j : Int} (ha : i.natAbs < 2 ^ (1 + 900)) (hb : j.natAbs < 2 ^ 900) : CMulW i j := wide_mul ha hb (by decide) (by decide) (by decide)
theorem den9 {d d' : Int} (h1 : d.natAbs < 2 ^ 900) (h2 : d'.natAbs < 2 ^ 900) : (d * d').natAbs < 2 ^ 9000 := Nat.lt_of_lt_of_le (pow_mul h1 h2) (Nat.pow_le_pow_right (by decide) (by decide))
abbrev s_sum_of_both : Stmt := top 15
abbrev N_sum_of_both : List Str := ["one", "other", "by", "its"]
theorem sc_sum_of_both : FnScope N_sum_of_both ["one", "other", "by"] (defScope s_sum_of_both) := ⟨rfl, rfl, rfl, by decide +kernel, rfl, by decide +kernel, by decide +kernel⟩
def sp_sum (CA : Addr) : Sp := fun vs H Q _ => ∃ (v v' : V) (n d n' d' b : Int), vs = [v, v', .int b] ∧ Am CA H v n d ∧ IsA CA H v' n' d' ∧ Opd n d ∧ Opd n' d' ∧ (b = 1 ∨ b = -1) ∧
  ∀ x H', Ex H H' → Am CA H' x (FrM.num (n * d' + b * n' * d) (d * d')) (FrM.den (n * d' + b * n' * d) (d * d')) → Q x H'
theorem ok_sum_of_both {f : Addr} {fd : FuncData} (F : L2.Fun K "sum_of_both" "sum_of_both" s_sum_of_both f fd) (T : Txt K mg CA p0 p1) (c_amount_of : Cal P w K mg base 4 "amount_of" (sp_amount_of CA) []) (m_Amount2 : Mak P w K mg base 2 "Amount" CA (sp_init CA) []) : FnOk P w K mg base CX0 5 f fd ["one", "other", "by"] (sp_sum CA) := by
  refine F.ok sc_sum_of_both (fun vs H Q E h => ?_) (fun cdv A outer s H vs Q E hr h => ?_)
  · obtain ⟨v, v', n, d, n', d', b, rfl, _⟩ := h
    rfl
  · obtain ⟨v, v', n, d, n', d', b, rfl, hv, hv', b1, b2, hb, q⟩ := h
    refine ⟨_, (pss_cons (ps_set (i := 3) sc_sum_of_both.nd rfl (Or.inl rfl) (pe_cal c_amount_of hr (by decide) rfl (pa_cons (pv 1) pa_nil)))
      (pss_one (ps_ret (pe_mak m_Amount2 hr (by decide) rfl (pa_cons (pe_op op_add (pe_op op_mulW (pe_num T.am (pv 0)) (pe_den T.am (pv 3))) (pe_op op_mulW (pe_op op_mulW (pv 2) (pe_num T.am (pv 3))) (pe_den T.am (pv 0)))) (pa_cons (pe_op op_mulW (pe_den T.am (pv 0)) (pe_den T.am (pv 3))) pa_nil)))))), ?_⟩
    refine ⟨_, rfl, _, _, _, rfl, hv', fun x H1 e1 a1 => ?_⟩
    have a0 := hv.ext e1
    have hb1 : b.natAbs < 2 ^ 1 := by rcases hb with rfl | rfl <;> decide
    refine ⟨_, rfl, _, _, a0, _, rfl, _, _, a1, _, _, rfl, rfl, mul9 b1.bn b2.bd, ?_⟩
    refine ⟨_, rfl, _, rfl, _, _, a1, _, _, rfl, rfl, wide_mul hb1 b2.bn (by decide) (by decide) (by decide), ?_⟩
    refine ⟨_, rfl, _, _, a0, _, _, rfl, rfl, mul18 (pow_mul hb1 b2.bn) b1.bd, ?_⟩
    refine ⟨_, _, rfl, rfl, ?_⟩
    refine ⟨_, rfl, _, _, a0, _, rfl, _, _, a1, _, _, rfl, rfl, mul9 b1.bd b2.bd, ?_⟩
    refine fun y dy hy hdy hne => init_use hy hdy hne (Int.mul_ne_zero b1.nz b2.nz) (den9 b1.bd b2.bd) fun H' e a => ⟨rfl, ?_⟩
    exact q _ H' (fun c o h => e _ _ (e1 _ _ h)) a
abbrev s_product : Stmt := top 16
abbrev N_product : List Str := ["one", "other", "its"]
theorem sc_product : FnScope N_product ["one", "other"] (defScope s_product) := ⟨rfl, rfl, rfl, by decide +kernel, rfl, by decide +kernel, by decide +kernel⟩
def sp_prod (CA : Addr) : Sp := fun vs H Q _ => ∃ v v' n d n' d', vs = [v, v'] ∧ Am CA H v n d ∧ IsA CA H v' n' d' ∧ Opd n d ∧ Opd n' d' ∧
  ∀ x H', Ex H H' → Am CA H' x (FrM.num (n * n') (d * d')) (FrM.den (n * n') (d * d')) → Q x H'
theorem ok_product {f : Addr} {fd : FuncData} (F : L2.Fun K "product" "product" s_product f fd) (T : Txt K mg CA p0 p1) (c_amount_of : Cal P w K mg base 4 "amount_of" (sp_amount_of CA) []) (m_Amount2 : Mak P w K mg base 2 "Amount" CA (sp_init CA) []) : FnOk P w K mg base CX0 5 f fd ["one", "other"] (sp_prod CA) := by
  refine F.ok sc_product (fun vs H Q E h => ?_) (fun cdv A outer s H vs Q E hr h => ?_)
  · obtain ⟨v, v', n, d, n', d', rfl, _⟩ := h
    rfl
  · obtain ⟨v, v', n, d, n', d', rfl, hv, hv', b1, b2, q⟩ := h
    refine ⟨_, (pss_cons (ps_set (i := 2) sc_product.nd rfl (Or.inl rfl) (pe_cal c_amount_of hr (by decide) rfl (pa_cons (pv 1) pa_nil)))
      (pss_one (ps_ret (pe_mak m_Amount2 hr (by decide) rfl (pa_cons (pe_op op_mulW (pe_num T.am (pv 0)) (pe_num T.am (pv 2))) (pa_cons (pe_op op_mulW (pe_den T.am (pv 0)) (pe_den T.am (pv 2))) pa_nil)))))), ?_⟩
    refine ⟨_, rfl, _, _, _, rfl, hv', fun x H1 e1 a1 => ?_⟩
    have a0 := hv.ext e1
    refine ⟨_, rfl, _, _, a0, _, rfl, _, _, a1, _, _, rfl, rfl, mul9 b1.bn b2.bn, ?_⟩
    refine ⟨_, rfl, _, _, a0, _, rfl, _, _, a1, _, _, rfl, rfl, mul9 b1.bd b2.bd, ?_⟩
    refine fun y dy hy hdy hne => init_use hy hdy hne (Int.mul_ne_zero b1.nz b2.nz) (den9 b1.bd b2.bd) fun H' e a => ⟨rfl, ?_⟩
    exact q _ H' (fun c o h => e _ _ (e1 _ _ h)) a
/-! ### Amount.__repr__, as the library's repr asks it: nothing of the heap changes -/
abbrev s_Amount_repr : Stmt := inClass (top 11) 6
abbrev N_Amount_repr : List Str := ["self"]
theorem sc_Amount_repr : FnScope N_Amount_repr ["self"] (defScope s_Amount_repr) := ⟨rfl, rfl, rfl, by decide +kernel, rfl, by decide +kernel, by decide +kernel⟩
theorem amR_of {f : Addr} {fd : FuncData} (F : L2.Fun K "__repr__" "Amount.__repr__" s_Amount_repr f fd) (T : AmC K CA p0 p1) (i : PySem.W.findIn K (.ref CA) "__repr__" = some (some (.ref f))) (hf : PySem.W.isFn K (.ref f) = true) : AmR P w K CA f := by
  obtain ⟨oc, od, kV, doc, pm, an, cdv, ct, osl, rfl, lk, hcd⟩ := F.ex
  refine ⟨i, beq_iff_eq.mp hf, fun A R s x n d hp X lim am h1 h2 hQ => ?_⟩
  refine codeAny_call_def (body := defBody s_Amount_repr) (binds := [("self", .ref x)]) hp (X _ _ lk) rfl lim (PySem.W.codeRec_of X hcd) rfl (.of_eq rfl) (show ∀ y ∈ (defScope s_Amount_repr).names, y.2 ≠ .cell by decide +kernel) (fun y hy => ?_) (fun h₀ hns hk => ?_) rfl rfl rfl
  · rcases List.mem_cons.mp hy with e | e
    · subst e
      exact (show (defScope s_Amount_repr).names.lookup ("self" : Str) = some NameKind.local by decide +kernel)
    · cases e
  obtain ⟨dx, sl, od', t0, t1, I, e0, e1⟩ := am.keeps hk
  have X0 : K.In h₀ := X.keeps hk
  have fr : Fr s.heap s.heap.objs.size h₀ _ := ⟨hns, hk, Nat.le_refl _⟩
  have l1 : (Str.ofString (toString n)).length ≤ 1922 := by
    have e := int_text_length_le (k := 1920) (by decide) h1
    rw [PySem.ofString_length]
    omega
  have l2 : (Str.ofString (toString d)).length ≤ 1922 := by
    have e := int_text_length_le (k := 1920) (by decide) h2
    rw [PySem.ofString_length]
    omega
  have gn : ∀ {A : Around} {E : Value → Shared → Prop} {tk : Nat} {p1 p2 : Pos} {Q : Value → Shared → Prop}, (∀ tk', Q (.int n t0) { s with heap := h₀, toks := tk' }) → wpAny (model P w) A (eval (.Attribute (.Name "self" p1) "own_number" p2) (callEnv (PySem.W.fnOf "__repr__" "Amount.__repr__" (defArgs s_Amount_repr) (defBody s_Amount_repr) (defScope s_Amount_repr) .none kV doc pm an cdv ct) s.heap.objs.size f)) Q E { s with heap := h₀, toks := tk } :=
    fun q => attr_of rfl (ldc rfl rfl hns rfl (PySem.W.get_slot (s := { s with heap := h₀, toks := _ }) fr X I (T.own.cl.get _) T.own.cl.ic T.s0.at_ T.s0.get T.s0.tk T.s0.ix e0 rfl (q _)))
  have gd : ∀ {A : Around} {E : Value → Shared → Prop} {tk : Nat} {p1 p2 : Pos} {Q : Value → Shared → Prop}, (∀ tk', Q (.int d t1) { s with heap := h₀, toks := tk' }) → wpAny (model P w) A (eval (.Attribute (.Name "self" p1) "own_under" p2) (callEnv (PySem.W.fnOf "__repr__" "Amount.__repr__" (defArgs s_Amount_repr) (defBody s_Amount_repr) (defScope s_Amount_repr) .none kV doc pm an cdv ct) s.heap.objs.size f)) Q E { s with heap := h₀, toks := tk } :=
    fun q => attr_of rfl (ldc rfl rfl hns rfl (PySem.W.get_slot (s := { s with heap := h₀, toks := _ }) fr X I (T.own.cl.get _) T.own.cl.ic T.s1.at_ T.s1.get T.s1.tk T.s1.ix e1 rfl (q _)))
  have fits : ∀ k : Nat, k ≤ 5000 → k ≤ sizeLine := fun k h => by rw [sizeLine_eq]; omega
  refine wpAny_execs_cons (wpAny_If (wpAny_isTrue_Compare1 (gd fun tk => wpAny_Constant_int (eq_int (wpAny_truthy_bool ?_)))))
  by_cases hd : d = 1
  · have eb : (d == 1) = true := by rw [hd]; rfl
    have et : amT n d = Str.ofString "Amount(" ++ Str.ofString (toString n) ++ Str.ofString ")" := by unfold amT; rw [if_pos hd]
    rw [eb, if_pos rfl]
    refine wpAny_execs_cons (wpAny_Return_some (wpAny_JoinedStr ?_))
    have k1 : (Str.ofString "Amount(").length = 7 := by decide
    have k2 : (Str.ofString ")").length = 1 := by decide
    refine Calls.Constant_str ⟨_, _, rfl, fits _ (by decide), ?_⟩
    refine wpAny_FormattedValue_plain (gn fun tk => wpAny_formatField_int h1 ⟨_, _, rfl, fits _ ?_, ?_⟩)
    · rw [strLen_append]
      show (Str.ofString "Amount(").length + _ ≤ _
      omega
    refine Calls.Constant_str ⟨_, _, rfl, ?_, ?_, ?_⟩
    · refine fits _ ?_
      rw [strLen_append, strLen_append]
      show (Str.ofString "Amount(").length + _ + _ ≤ _
      omega
    · refine fits _ ?_
      rw [strLen_append, strLen_append]
      show (Str.ofString "Amount(").length + _ + _ ≤ _
      omega
    rw [et] at hQ
    exact hQ h₀ _ _ hk
  · have eb : (d == 1) = false := by simpa using hd
    have et : amT n d = Str.ofString "Amount(" ++ Str.ofString (toString n) ++ Str.ofString ", " ++ Str.ofString (toString d) ++ Str.ofString ")" := by unfold amT; rw [if_neg hd]
    rw [eb, if_neg Bool.false_ne_true]
    refine wpAny_execs_nil ?_
    refine wpAny_execs_cons (wpAny_Return_some (wpAny_JoinedStr ?_))
    have k1 : (Str.ofString "Amount(").length = 7 := by decide
    have k2 : (Str.ofString ")").length = 1 := by decide
    have k3 : (Str.ofString ", ").length = 2 := by decide
    refine Calls.Constant_str ⟨_, _, rfl, fits _ (by decide), ?_⟩
    refine wpAny_FormattedValue_plain (gn fun tk => wpAny_formatField_int h1 ⟨_, _, rfl, fits _ ?_, ?_⟩)
    · rw [strLen_append]
      show (Str.ofString "Amount(").length + _ ≤ _
      omega
    refine Calls.Constant_str ⟨_, _, rfl, fits _ ?_, ?_⟩
    · rw [strLen_append, strLen_append]
      show (Str.ofString "Amount(").length + _ + _ ≤ _
      omega
    refine wpAny_FormattedValue_plain (gd fun tk => wpAny_formatField_int h2 ⟨_, _, rfl, fits _ ?_, ?_⟩)
    · rw [strLen_append, strLen_append, strLen_append]
      show (Str.ofString "Amount(").length + _ + _ + _ ≤ _
      omega
    refine Calls.Constant_str ⟨_, _, rfl, ?_, ?_, ?_⟩
    · refine fits _ ?_
      rw [strLen_append, strLen_append, strLen_append, strLen_append]
      show (Str.ofString "Amount(").length + _ + _ + _ + _ ≤ _
      omega
    · refine fits _ ?_
      rw [strLen_append, strLen_append, strLen_append, strLen_append]
      show (Str.ofString "Amount(").length + _ + _ + _ + _ ≤ _
      omega
    rw [et] at hQ
    exact hQ h₀ _ _ hk
/-! ### the quotient: it may raise -/
abbrev s_quotient : Stmt := top 17
abbrev N_quotient : List Str := ["one", "other", "left", "right"]
theorem sc_quotient : FnScope N_quotient ["one", "other"] (defScope s_quotient) := ⟨rfl, rfl, rfl, by decide +kernel, rfl, by decide +kernel, by decide +kernel⟩
def sp_quot (CA CQ : Addr) : Sp := fun vs H Q E => ∃ (v v' : V) (n d n' d' : Int), vs = [v, v'] ∧ IsA CA H v n d ∧ IsA CA H v' n' d' ∧ Opd n d ∧ Opd n' d' ∧
  (n' ≠ 0 → ∀ x H', Ex H H' → Am CA H' x (FrM.num (n * d') (d * n')) (FrM.den (n * d') (d * n')) → Q x H') ∧ (n' = 0 → ∀ dx H', Ex H H' → H' dx = none → E (.ref CQ) (some dx) (upd H' dx (.xd [("value", v)])))
theorem IsA.ext {H H' : Hp} {v : V} {n d : Int} (x : IsA CA H v n d) (e : Ex H H') : IsA CA H' v n d := by
  rcases x with x | x
  · exact .inl x
  · exact .inr (x.ext e)
theorem IsA.ty {H : Hp} {v : V} {n d : Int} (x : IsA CA H v n d) (c : AmC K CA p0 p1) : ∃ k, TyW K H v (tyk CA k) ∧ (k = .int ∨ k = .amt) := by
  rcases x with ⟨rfl, _⟩ | x
  · exact ⟨.int, .b (.int n), .inl rfl⟩
  · exact ⟨.amt, x.ty c, .inr rfl⟩
theorem ok_quotient {f : Addr} {fd : FuncData} (F : L2.Fun K "quotient" "quotient" s_quotient f fd) (T : Txt K mg CA p0 p1) (c_amount_of : Cal P w K mg base 4 "amount_of" (sp_amount_of CA) []) (m_Amount2 : Mak P w K mg base 2 "Amount" CA (sp_init CA) []) (x_NoQuotient : Exn P K mg "NoQuotient" CQ CM fM) :
    FnOk P w K mg base (L2.CX P w) 5 f fd ["one", "other"] (sp_quot CA CQ) := by
  refine F.okX sc_quotient (fun vs H Q E h => ?_) (fun cdv A outer s H vs Q E hr h => ?_)
  · obtain ⟨v, v', n, d, n', d', rfl, _⟩ := h
    rfl
  · obtain ⟨v, v', n, d, n', d', rfl, hv, hv', b1, b2, q, q'⟩ := h
    refine ⟨_, (pss_cons (ps_par (i := 2) (j := 3) rfl sc_quotient.nd rfl rfl (by decide) rfl rfl (pa_cons (pe_cal c_amount_of hr (by decide) rfl (pa_cons (pv 0) pa_nil)) (pa_cons (pe_cal c_amount_of hr (by decide) rfl (pa_cons (pv 1) pa_nil)) pa_nil)) rfl)
      (pss_cons (ps_if (pt_cmpR op_eq (pe_num T.am (pv 3)) pe_int (nomark _)) (pss_one (ps_raise rfl (takes_of rfl rfl rfl rfl) (pmk_me x_NoQuotient.er x_NoQuotient.me (hr.mono (by decide)) rfl x_NoQuotient.g (pv 0)))) pss_nil)
      (pss_one (ps_ret (pe_mak m_Amount2 hr (by decide) rfl (pa_cons (pe_op op_mulW (pe_num T.am (pv 2)) (pe_den T.am (pv 3))) (pa_cons (pe_op op_mulW (pe_den T.am (pv 2)) (pe_num T.am (pv 3))) pa_nil))))))), ?_⟩
    refine ⟨_, rfl, _, _, _, rfl, hv, fun x H1 e1 a1 => ⟨_, rfl, _, _, _, rfl, hv'.ext e1, fun y H2 e2 a2 => ⟨_, _, rfl, ?_⟩⟩⟩
    have a1' := a1.ext e2
    refine ⟨_, rfl, _, _, a2, rfl, _, rfl, ?_⟩
    by_cases hz : n' = 0
    · refine iteY (decide_eq_true (by rw [hz])) ?_
      refine ⟨_, rfl, fun dx hdx => ?_⟩
      exact q' hz dx H2 (fun c o h => e2 _ _ (e1 _ _ h)) hdx
    · refine iteN (decide_eq_false fun z => hz (V.int.inj z)) ?_
      refine ⟨_, rfl, _, _, a1', _, rfl, _, _, a2, _, _, rfl, rfl, mul9 b1.bn b2.bd, ?_⟩
      refine ⟨_, rfl, _, _, a1', _, rfl, _, _, a2, _, _, rfl, rfl, mul9 b1.bd b2.bn, ?_⟩
      refine fun z dz h1 h2 h3 => init_use h1 h2 h3 (Int.mul_ne_zero b1.nz hz) (den9 b1.bd b2.bn) fun H' e a => ⟨rfl, ?_⟩
      exact q hz _ H' (fun c o h => e _ _ (e2 _ _ (e1 _ _ h))) a
/-! ### the operators -/
def sp_plus (CA : Addr) (b : Int) : Sp := fun vs H Q _ => ∃ (v v' : V) (n d n' d' : Int), vs = [v, v'] ∧ Am CA H v n d ∧ IsA CA H v' n' d' ∧ Opd n d ∧ Opd n' d' ∧
  ∀ x H', Ex H H' → Am CA H' x (FrM.num (n * d' + b * n' * d) (d * d')) (FrM.den (n * d' + b * n' * d) (d * d')) → Q x H'
def sp_rmin (CA : Addr) : Sp := fun vs H Q _ => ∃ (v v' : V) (n d n' d' : Int), vs = [v, v'] ∧ Am CA H v n d ∧ IsA CA H v' n' d' ∧ Opd n d ∧ Opd n' d' ∧
  ∀ x H', Ex H H' → Am CA H' x (FrM.num (n' * d + -1 * n * d') (d' * d)) (FrM.den (n' * d + -1 * n * d') (d' * d)) → Q x H'
def sp_rquot (K : PySem.W.Frag) (CA CQ : Addr) : Sp := fun vs H Q E => ∃ v v', vs = [v, v'] ∧ sp_quot CA CQ [v', v] H Q E ∧ ∃ k, TyW K H v' (tyk CA k) ∧ (k = .int ∨ k = .amt)
def sp_quo (K : PySem.W.Frag) (CA CQ : Addr) : Sp := fun vs H Q E => ∃ v v', vs = [v, v'] ∧ sp_quot CA CQ [v, v'] H Q E ∧ ∃ k, TyW K H v' (tyk CA k) ∧ (k = .int ∨ k = .amt)
abbrev s_Amount_add : Stmt := inClass (top 11) 14
abbrev N_Amount_add : List Str := ["self", "other"]
theorem sc_Amount_add : FnScope N_Amount_add ["self", "other"] (defScope s_Amount_add) := ⟨rfl, rfl, rfl, by decide +kernel, rfl, by decide +kernel, by decide +kernel⟩
theorem ok_add {f : Addr} {fd : FuncData} (F : L2.Fun K "__add__" "Amount.__add__" s_Amount_add f fd) (T : Txt K mg CA p0 p1) (c_is_amount : Cal P w K mg base 2 "is_amount" (sp_is_amount K CA) []) (c_sum_of_both : Cal P w K mg base 5 "sum_of_both" (sp_sum CA) []) : FnOk P w K mg base CX0 6 f fd ["self", "other"] (sp_plus CA 1) := by
  refine F.ok sc_Amount_add (fun vs H Q E h => ?_) (fun cdv A outer s H vs Q E hr h => ?_)
  · obtain ⟨v, v', n, d, n', d', rfl, _⟩ := h
    rfl
  · obtain ⟨v, v', n, d, n', d', rfl, hv, hv', b1, b2, q⟩ := h
    refine ⟨_, (pss_cons (ps_if (pt_not (pt_val (pe_cal c_is_amount hr (by decide) rfl (pa_cons (pv 1) pa_nil)))) (pss_one ps_never) pss_nil)
      (pss_one (ps_ret (pe_cal c_sum_of_both hr (by decide) rfl (pa_cons (pv 0) (pa_cons (pv 1) (pa_cons pe_int pa_nil))))))), ?_⟩
    obtain ⟨k, ty, hk⟩ := hv'.ty T.am
    refine ⟨_, rfl, _, k, rfl, ty, _, rfl, iteN (by rw [decide_eq_true hk]; rfl) ?_⟩
    exact ⟨_, rfl, _, rfl, _, _, _, _, _, _, _, rfl, hv, hv', b1, b2, .inl rfl, q⟩
abbrev s_Amount_radd : Stmt := inClass (top 11) 15
abbrev N_Amount_radd : List Str := ["self", "other"]
theorem sc_Amount_radd : FnScope N_Amount_radd ["self", "other"] (defScope s_Amount_radd) := ⟨rfl, rfl, rfl, by decide +kernel, rfl, by decide +kernel, by decide +kernel⟩
theorem ok_radd {f : Addr} {fd : FuncData} (F : L2.Fun K "__radd__" "Amount.__radd__" s_Amount_radd f fd) (T : Txt K mg CA p0 p1) (c_is_amount : Cal P w K mg base 2 "is_amount" (sp_is_amount K CA) []) (c_sum_of_both : Cal P w K mg base 5 "sum_of_both" (sp_sum CA) []) : FnOk P w K mg base CX0 6 f fd ["self", "other"] (sp_plus CA 1) := by
  refine F.ok sc_Amount_radd (fun vs H Q E h => ?_) (fun cdv A outer s H vs Q E hr h => ?_)
  · obtain ⟨v, v', n, d, n', d', rfl, _⟩ := h
    rfl
  · obtain ⟨v, v', n, d, n', d', rfl, hv, hv', b1, b2, q⟩ := h
    refine ⟨_, (pss_cons (ps_if (pt_not (pt_val (pe_cal c_is_amount hr (by decide) rfl (pa_cons (pv 1) pa_nil)))) (pss_one ps_never) pss_nil)
      (pss_one (ps_ret (pe_cal c_sum_of_both hr (by decide) rfl (pa_cons (pv 0) (pa_cons (pv 1) (pa_cons pe_int pa_nil))))))), ?_⟩
    obtain ⟨k, ty, hk⟩ := hv'.ty T.am
    refine ⟨_, rfl, _, k, rfl, ty, _, rfl, iteN (by rw [decide_eq_true hk]; rfl) ?_⟩
    exact ⟨_, rfl, _, rfl, _, _, _, _, _, _, _, rfl, hv, hv', b1, b2, .inl rfl, q⟩
abbrev s_Amount_sub : Stmt := inClass (top 11) 16
abbrev N_Amount_sub : List Str := ["self", "other"]
theorem sc_Amount_sub : FnScope N_Amount_sub ["self", "other"] (defScope s_Amount_sub) := ⟨rfl, rfl, rfl, by decide +kernel, rfl, by decide +kernel, by decide +kernel⟩
theorem ok_sub {f : Addr} {fd : FuncData} (F : L2.Fun K "__sub__" "Amount.__sub__" s_Amount_sub f fd) (T : Txt K mg CA p0 p1) (c_is_amount : Cal P w K mg base 2 "is_amount" (sp_is_amount K CA) []) (c_sum_of_both : Cal P w K mg base 5 "sum_of_both" (sp_sum CA) []) : FnOk P w K mg base CX0 6 f fd ["self", "other"] (sp_plus CA (-1)) := by
  refine F.ok sc_Amount_sub (fun vs H Q E h => ?_) (fun cdv A outer s H vs Q E hr h => ?_)
  · obtain ⟨v, v', n, d, n', d', rfl, _⟩ := h
    rfl
  · obtain ⟨v, v', n, d, n', d', rfl, hv, hv', b1, b2, q⟩ := h
    refine ⟨_, (pss_cons (ps_if (pt_not (pt_val (pe_cal c_is_amount hr (by decide) rfl (pa_cons (pv 1) pa_nil)))) (pss_one ps_never) pss_nil)
      (pss_one (ps_ret (pe_cal c_sum_of_both hr (by decide) rfl (pa_cons (pv 0) (pa_cons (pv 1) (pa_cons (pe_un un_neg pe_int) pa_nil))))))), ?_⟩
    obtain ⟨k, ty, hk⟩ := hv'.ty T.am
    refine ⟨_, rfl, _, k, rfl, ty, _, rfl, iteN (by rw [decide_eq_true hk]; rfl) ?_⟩
    exact ⟨_, rfl, _, rfl, _, rfl, _, _, _, _, _, _, _, rfl, hv, hv', b1, b2, .inr rfl, q⟩
abbrev s_Amount_rsub : Stmt := inClass (top 11) 17
abbrev N_Amount_rsub : List Str := ["self", "other"]
theorem sc_Amount_rsub : FnScope N_Amount_rsub ["self", "other"] (defScope s_Amount_rsub) := ⟨rfl, rfl, rfl, by decide +kernel, rfl, by decide +kernel, by decide +kernel⟩
theorem ok_rsub {f : Addr} {fd : FuncData} (F : L2.Fun K "__rsub__" "Amount.__rsub__" s_Amount_rsub f fd) (T : Txt K mg CA p0 p1) (c_is_amount : Cal P w K mg base 2 "is_amount" (sp_is_amount K CA) []) (c_sum_of_both : Cal P w K mg base 5 "sum_of_both" (sp_sum CA) []) (c_amount_of : Cal P w K mg base 4 "amount_of" (sp_amount_of CA) []) : FnOk P w K mg base CX0 6 f fd ["self", "other"] (sp_rmin CA) := by
  refine F.ok sc_Amount_rsub (fun vs H Q E h => ?_) (fun cdv A outer s H vs Q E hr h => ?_)
  · obtain ⟨v, v', n, d, n', d', rfl, _⟩ := h
    rfl
  · obtain ⟨v, v', n, d, n', d', rfl, hv, hv', b1, b2, q⟩ := h
    refine ⟨_, (pss_cons (ps_if (pt_not (pt_val (pe_cal c_is_amount hr (by decide) rfl (pa_cons (pv 1) pa_nil)))) (pss_one ps_never) pss_nil)
      (pss_one (ps_ret (pe_cal c_sum_of_both hr (by decide) rfl (pa_cons (pe_cal c_amount_of hr (by decide) rfl (pa_cons (pv 1) pa_nil)) (pa_cons (pv 0) (pa_cons (pe_un un_neg pe_int) pa_nil))))))), ?_⟩
    obtain ⟨k, ty, hk⟩ := hv'.ty T.am
    refine ⟨_, rfl, _, k, rfl, ty, _, rfl, iteN (by rw [decide_eq_true hk]; rfl) ?_⟩
    refine ⟨_, rfl, _, _, _, rfl, hv', fun x H1 e1 a1 => ?_⟩
    exact ⟨_, rfl, _, rfl, _, _, _, _, _, _, _, rfl, a1, .inr (hv.ext e1), b2, b1, .inr rfl, fun y H2 e2 a2 => q y H2 (fun c o h => e2 _ _ (e1 _ _ h)) a2⟩
abbrev s_Amount_mul : Stmt := inClass (top 11) 18
abbrev N_Amount_mul : List Str := ["self", "other"]
theorem sc_Amount_mul : FnScope N_Amount_mul ["self", "other"] (defScope s_Amount_mul) := ⟨rfl, rfl, rfl, by decide +kernel, rfl, by decide +kernel, by decide +kernel⟩
theorem ok_mul {f : Addr} {fd : FuncData} (F : L2.Fun K "__mul__" "Amount.__mul__" s_Amount_mul f fd) (T : Txt K mg CA p0 p1) (c_is_amount : Cal P w K mg base 2 "is_amount" (sp_is_amount K CA) []) (c_product : Cal P w K mg base 5 "product" (sp_prod CA) []) : FnOk P w K mg base CX0 6 f fd ["self", "other"] (sp_prod CA) := by
  refine F.ok sc_Amount_mul (fun vs H Q E h => ?_) (fun cdv A outer s H vs Q E hr h => ?_)
  · obtain ⟨v, v', n, d, n', d', rfl, _⟩ := h
    rfl
  · obtain ⟨v, v', n, d, n', d', rfl, hv, hv', b1, b2, q⟩ := h
    refine ⟨_, (pss_cons (ps_if (pt_not (pt_val (pe_cal c_is_amount hr (by decide) rfl (pa_cons (pv 1) pa_nil)))) (pss_one ps_never) pss_nil)
      (pss_one (ps_ret (pe_cal c_product hr (by decide) rfl (pa_cons (pv 0) (pa_cons (pv 1) pa_nil)))))), ?_⟩
    obtain ⟨k, ty, hk⟩ := hv'.ty T.am
    refine ⟨_, rfl, _, k, rfl, ty, _, rfl, iteN (by rw [decide_eq_true hk]; rfl) ?_⟩
    exact ⟨_, rfl, _, rfl, _, _, _, _, _, _, rfl, hv, hv', b1, b2, q⟩
abbrev s_Amount_rmul : Stmt := inClass (top 11) 19
abbrev N_Amount_rmul : List Str := ["self", "other"]
theorem sc_Amount_rmul : FnScope N_Amount_rmul ["self", "other"] (defScope s_Amount_rmul) := ⟨rfl, rfl, rfl, by decide +kernel, rfl, by decide +kernel, by decide +kernel⟩
theorem ok_rmul {f : Addr} {fd : FuncData} (F : L2.Fun K "__rmul__" "Amount.__rmul__" s_Amount_rmul f fd) (T : Txt K mg CA p0 p1) (c_is_amount : Cal P w K mg base 2 "is_amount" (sp_is_amount K CA) []) (c_product : Cal P w K mg base 5 "product" (sp_prod CA) []) : FnOk P w K mg base CX0 6 f fd ["self", "other"] (sp_prod CA) := by
  refine F.ok sc_Amount_rmul (fun vs H Q E h => ?_) (fun cdv A outer s H vs Q E hr h => ?_)
  · obtain ⟨v, v', n, d, n', d', rfl, _⟩ := h
    rfl
  · obtain ⟨v, v', n, d, n', d', rfl, hv, hv', b1, b2, q⟩ := h
    refine ⟨_, (pss_cons (ps_if (pt_not (pt_val (pe_cal c_is_amount hr (by decide) rfl (pa_cons (pv 1) pa_nil)))) (pss_one ps_never) pss_nil)
      (pss_one (ps_ret (pe_cal c_product hr (by decide) rfl (pa_cons (pv 0) (pa_cons (pv 1) pa_nil)))))), ?_⟩
    obtain ⟨k, ty, hk⟩ := hv'.ty T.am
    refine ⟨_, rfl, _, k, rfl, ty, _, rfl, iteN (by rw [decide_eq_true hk]; rfl) ?_⟩
    exact ⟨_, rfl, _, rfl, _, _, _, _, _, _, rfl, hv, hv', b1, b2, q⟩
abbrev s_Amount_floordiv : Stmt := inClass (top 11) 20
abbrev N_Amount_floordiv : List Str := ["self", "other"]
theorem sc_Amount_floordiv : FnScope N_Amount_floordiv ["self", "other"] (defScope s_Amount_floordiv) := ⟨rfl, rfl, rfl, by decide +kernel, rfl, by decide +kernel, by decide +kernel⟩
theorem ok_floordiv {f : Addr} {fd : FuncData} (F : L2.Fun K "__floordiv__" "Amount.__floordiv__" s_Amount_floordiv f fd) (T : Txt K mg CA p0 p1) (c_is_amount : Cal P w K mg base 2 "is_amount" (sp_is_amount K CA) []) (c_quotient : CalX P w K mg base 5 "quotient" (sp_quot CA CQ) []) : FnOk P w K mg base (L2.CX P w) 6 f fd ["self", "other"] (sp_quo K CA CQ) := by
  refine F.okX sc_Amount_floordiv (fun vs H Q E h => ?_) (fun cdv A outer s H vs Q E hr h => ?_)
  · obtain ⟨v, v', rfl, _⟩ := h
    rfl
  · obtain ⟨v, v', rfl, q, k, ty, hk⟩ := h
    refine ⟨_, (pss_cons (ps_if (pt_not (pt_val (pe_cal c_is_amount hr (by decide) rfl (pa_cons (pv 1) pa_nil)))) (pss_one ps_never) pss_nil)
      (pss_one (ps_ret (pe_calX c_quotient hr (by decide) rfl (passS (takes_of rfl rfl rfl rfl)) (pa_cons (pv 0) (pa_cons (pv 1) pa_nil)))))), ?_⟩
    refine ⟨_, rfl, _, k, rfl, ty, _, rfl, iteN (by rw [decide_eq_true hk]; rfl) ?_⟩
    exact ⟨_, rfl, _, rfl, q⟩
abbrev s_Amount_rfloordiv : Stmt := inClass (top 11) 21
abbrev N_Amount_rfloordiv : List Str := ["self", "other"]
theorem sc_Amount_rfloordiv : FnScope N_Amount_rfloordiv ["self", "other"] (defScope s_Amount_rfloordiv) := ⟨rfl, rfl, rfl, by decide +kernel, rfl, by decide +kernel, by decide +kernel⟩
theorem ok_rfloordiv {f : Addr} {fd : FuncData} (F : L2.Fun K "__rfloordiv__" "Amount.__rfloordiv__" s_Amount_rfloordiv f fd) (T : Txt K mg CA p0 p1) (c_is_amount : Cal P w K mg base 2 "is_amount" (sp_is_amount K CA) []) (c_quotient : CalX P w K mg base 5 "quotient" (sp_quot CA CQ) []) : FnOk P w K mg base (L2.CX P w) 6 f fd ["self", "other"] (sp_rquot K CA CQ) := by
  refine F.okX sc_Amount_rfloordiv (fun vs H Q E h => ?_) (fun cdv A outer s H vs Q E hr h => ?_)
  · obtain ⟨v, v', rfl, _⟩ := h
    rfl
  · obtain ⟨v, v', rfl, q, k, ty, hk⟩ := h
    refine ⟨_, (pss_cons (ps_if (pt_not (pt_val (pe_cal c_is_amount hr (by decide) rfl (pa_cons (pv 1) pa_nil)))) (pss_one ps_never) pss_nil)
      (pss_one (ps_ret (pe_calX c_quotient hr (by decide) rfl (passS (takes_of rfl rfl rfl rfl)) (pa_cons (pv 1) (pa_cons (pv 0) pa_nil)))))), ?_⟩
    refine ⟨_, rfl, _, k, rfl, ty, _, rfl, iteN (by rw [decide_eq_true hk]; rfl) ?_⟩
    exact ⟨_, rfl, _, rfl, q⟩
abbrev s_Amount_neg : Stmt := inClass (top 11) 12
abbrev N_Amount_neg : List Str := ["self"]
theorem sc_Amount_neg : FnScope N_Amount_neg ["self"] (defScope s_Amount_neg) := ⟨rfl, rfl, rfl, by decide +kernel, rfl, by decide +kernel, by decide +kernel⟩
def sp_neg (CA : Addr) : Sp := fun vs H Q _ => ∃ (v : V) (n d : Int), vs = [v] ∧ Am CA H v n d ∧ Opd n d ∧ ∀ x H', Ex H H' → Am CA H' x (FrM.num (-n) d) (FrM.den (-n) d) → Q x H'
theorem ok_neg {f : Addr} {fd : FuncData} (F : L2.Fun K "__neg__" "Amount.__neg__" s_Amount_neg f fd) (T : Txt K mg CA p0 p1) (m_Amount2 : Mak P w K mg base 2 "Amount" CA (sp_init CA) []) : FnOk P w K mg base CX0 4 f fd ["self"] (sp_neg CA) := by
  refine F.ok sc_Amount_neg (fun vs H Q E h => ?_) (fun cdv A outer s H vs Q E hr h => ?_)
  · obtain ⟨v, n, d, rfl, _⟩ := h
    rfl
  · obtain ⟨v, n, d, rfl, hv, b, q⟩ := h
    refine ⟨_, (pss_one (ps_ret (pe_mak m_Amount2 hr (by decide) rfl (pa_cons (pe_un un_neg (pe_num T.am (pv 0))) (pa_cons (pe_den T.am (pv 0)) pa_nil))))), ?_⟩
    refine ⟨_, rfl, _, _, hv, _, rfl, _, rfl, _, _, hv, ?_⟩
    exact fun z dz h1 h2 h3 => init_use h1 h2 h3 b.nz (Nat.lt_of_lt_of_le b.bd (Nat.pow_le_pow_right (by decide) (by decide))) fun H' e a => ⟨rfl, q _ H' e a⟩
abbrev s_Amount_abs : Stmt := inClass (top 11) 13
abbrev N_Amount_abs : List Str := ["self"]
theorem sc_Amount_abs : FnScope N_Amount_abs ["self"] (defScope s_Amount_abs) := ⟨rfl, rfl, rfl, by decide +kernel, rfl, by decide +kernel, by decide +kernel⟩
def sp_abs (CA : Addr) : Sp := fun vs H Q _ => ∃ (v : V) (n d : Int), vs = [v] ∧ Am CA H v n d ∧ Opd n d ∧ ∀ x H', Ex H H' → Am CA H' x (FrM.num (n.natAbs : Int) d) (FrM.den (n.natAbs : Int) d) → Q x H'
theorem ok_abs {f : Addr} {fd : FuncData} (F : L2.Fun K "__abs__" "Amount.__abs__" s_Amount_abs f fd) (T : Txt K mg CA p0 p1) (m_Amount2 : Mak P w K mg base 2 "Amount" CA (sp_init CA) []) : FnOk P w K mg base CX0 4 f fd ["self"] (sp_abs CA) := by
  refine F.ok sc_Amount_abs (fun vs H Q E h => ?_) (fun cdv A outer s H vs Q E hr h => ?_)
  · obtain ⟨v, n, d, rfl, _⟩ := h
    rfl
  · obtain ⟨v, n, d, rfl, hv, b, q⟩ := h
    refine ⟨_, (pss_one (ps_ret (pe_mak m_Amount2 hr (by decide) rfl (pa_cons (pe_callB call_abs (by rfl) T.z_abs (by decide +kernel) (pa_cons (pe_num T.am (pv 0)) pa_nil)) (pa_cons (pe_den T.am (pv 0)) pa_nil))))), ?_⟩
    refine ⟨_, rfl, _, _, hv, _, rfl, _, rfl, _, _, hv, ?_⟩
    intro z dz h1 h2 h3
    show sp_init CA [.ref z, .int (if n < 0 then -n else n), .int d] _ _ _
    rw [abs_eq]
    exact init_use h1 h2 h3 b.nz (Nat.lt_of_lt_of_le b.bd (Nat.pow_le_pow_right (by decide) (by decide))) fun H' e a => ⟨rfl, q _ H' e a⟩
abbrev s_Amount_number : Stmt := inClass (top 11) 2
abbrev N_Amount_number : List Str := ["self"]
theorem sc_Amount_number : FnScope N_Amount_number ["self"] (defScope s_Amount_number) := ⟨rfl, rfl, rfl, by decide +kernel, rfl, by decide +kernel, by decide +kernel⟩
theorem ok_number {f : Addr} {fd : FuncData} (F : L2.Fun K "number" "Amount.number" s_Amount_number f fd) (T : Txt K mg CA p0 p1) : FnOk P w K mg base CX0 1 f fd ["self"] (sp_pn CA) := by
  refine F.ok sc_Amount_number (fun vs H Q E h => ?_) (fun cdv A outer s H vs Q E hr h => ?_)
  · obtain ⟨v, n, d, rfl, _⟩ := h
    rfl
  · obtain ⟨v, n, d, rfl, hv, q⟩ := h
    refine ⟨_, (pss_one (ps_ret (pe_num T.am (pv 0)))), ?_⟩
    exact ⟨_, rfl, _, _, hv, q⟩
abbrev s_Amount_under : Stmt := inClass (top 11) 3
abbrev N_Amount_under : List Str := ["self"]
theorem sc_Amount_under : FnScope N_Amount_under ["self"] (defScope s_Amount_under) := ⟨rfl, rfl, rfl, by decide +kernel, rfl, by decide +kernel, by decide +kernel⟩
theorem ok_under {f : Addr} {fd : FuncData} (F : L2.Fun K "under" "Amount.under" s_Amount_under f fd) (T : Txt K mg CA p0 p1) : FnOk P w K mg base CX0 1 f fd ["self"] (sp_pd CA) := by
  refine F.ok sc_Amount_under (fun vs H Q E h => ?_) (fun cdv A outer s H vs Q E hr h => ?_)
  · obtain ⟨v, n, d, rfl, _⟩ := h
    rfl
  · obtain ⟨v, n, d, rfl, hv, q⟩ := h
    refine ⟨_, (pss_one (ps_ret (pe_den T.am (pv 0)))), ?_⟩
    exact ⟨_, rfl, _, _, hv, q⟩

end
end Lw

set_option exponentiation.threshold 10000
namespace Lw
open PySem PySem.Spec PyProof.Rows L2 SlX WU
open Evl (Ex)
section
variable {P : Program} {w : World} {K : PySem.W.Frag} {mg : Str → Option Value} {base : Heap} {CA p0 p1 CQ CM fM : Addr}
/-! ### operators as rules -/
def Two (CA : Addr) (H : Hp) (x y : V) (n d n' d' : Int) : Prop := (Am CA H x n d ∧ IsA CA H y n' d') ∨ (IsA CA H x n d ∧ Am CA H y n' d')
theorem Two.cases {H : Hp} {x y : V} {n d n' d' : Int} (t : Two CA H x y n d n' d') : (Am CA H x n d ∧ IsA CA H y n' d') ∨ (x = .int n ∧ d = 1 ∧ Am CA H y n' d') := by
  rcases t with h | ⟨h | h, h2⟩
  · exact .inl h
  · exact .inr ⟨h.1, h.2, h2⟩
  · exact .inl ⟨h, .inr h2⟩
theorem Two.ext {H H' : Hp} {x y : V} {n d n' d' : Int} (t : Two CA H x y n d n' d') (e : Ex H H') : Two CA H' x y n d n' d' := by
  rcases t with ⟨a, b⟩ | ⟨a, b⟩
  · exact .inl ⟨a.ext e, b.ext e⟩
  · exact .inr ⟨a.ext e, b.ext e⟩
theorem Two.left {H : Hp} {x y : V} {n d n' d' : Int} (t : Two CA H x y n d n' d') : IsA CA H x n d := by
  rcases t with ⟨a, b⟩ | ⟨a, b⟩
  · exact .inr a
  · exact a
theorem Two.right {H : Hp} {x y : V} {n d n' d' : Int} (t : Two CA H x y n d n' d') : IsA CA H y n' d' := by
  rcases t with ⟨a, b⟩ | ⟨a, b⟩
  · exact b
  · exact .inr b
theorem IsA.sl {H : Hp} {v : V} {n d : Int} (x : IsA CA H v n d) : (∃ b dy ws, v = .ref b ∧ Slt H b CA dy ws) ∨ ∃ j, v = .int j := by
  rcases x with ⟨rfl, _⟩ | x
  · exact .inr ⟨_, rfl⟩
  · obtain ⟨a, dx, ex, sx⟩ := x.slt
    exact .inl ⟨a, dx, _, ex, sx⟩
/-- the defs behind the operators -/
structure AmOp (P : Program) (w : World) (K : PySem.W.Frag) (mg : Str → Option Value) (base : Heap) (CA CQ p0 p1 : Addr) : Prop where
  am : AmC K CA p0 p1
  add : ∃ f g, BoC K CA "add" f g ∧ FnR P w K mg base CX0 6 f (sp_plus CA 1) ∧ FnR P w K mg base CX0 6 g (sp_plus CA 1)
  sub : ∃ f g, BoC K CA "sub" f g ∧ FnR P w K mg base CX0 6 f (sp_plus CA (-1)) ∧ FnR P w K mg base CX0 6 g (sp_rmin CA)
  mul : ∃ f g, BoC K CA "mul" f g ∧ FnR P w K mg base CX0 6 f (sp_prod CA) ∧ FnR P w K mg base CX0 6 g (sp_prod CA)
  quo : ∃ f g, BoC K CA "floordiv" f g ∧ FnR P w K mg base (L2.CX P w) 6 f (sp_quo K CA CQ) ∧ FnR P w K mg base (L2.CX P w) 6 g (sp_rquot K CA CQ)
  neg : ∃ f, PySem.W.findIn K (.ref CA) "__neg__" = some (some (.ref f)) ∧ PySem.W.isFn K (.ref f) = true ∧ FnR P w K mg base CX0 4 f (sp_neg CA)
  abs : ∃ f, PySem.W.findIn K (.ref CA) "__abs__" = some (some (.ref f)) ∧ PySem.W.isFn K (.ref f) = true ∧ FnR P w K mg base CX0 4 f (sp_abs CA)
/-- x op y: a new amount, the fraction by g in least terms -/
def rA2 (CA : Addr) (g : Int → Int → Int → Int → Int × Int) : R2 := fun x y H Q => ∃ n d n' d', Two CA H x y n d n' d' ∧ Opd n d ∧ Opd n' d' ∧ ∀ z H', Ex H H' → Am CA H' z (FrM.num (g n d n' d').1 (g n d n' d').2) (FrM.den (g n d n' d').1 (g n d n' d').2) → Q z H'
section
variable {X : Cx}
theorem opSOr {op : Value → Value → Sem Value} {r r' : L2.St → R2} (h : OpS X op r) (h' : OpS X op r') : OpS X op (fun σ x y H Q => r σ x y H Q ∨ r' σ x y H Q) := by
  intro pins s σ H x y v u Q I rx ry q
  rcases q with q | q
  · exact h pins s σ H x y v u Q I rx ry q
  · exact h' pins s σ H x y v u Q I rx ry q
theorem opSImp {op : Value → Value → Sem Value} {r r' : L2.St → R2} (h : OpS X op r) (f : ∀ σ x y H Q, r' σ x y H Q → r σ x y H Q) : OpS X op r' := fun pins s σ H x y v u Q I rx ry q => h pins s σ H x y v u Q I rx ry (f σ x y H Q q)
theorem passS0 {E : L2.St → XK} : PassesS CX0 X E := fun _ _ _ _ _ _ _ h => h.elim
theorem op_addA (c : AmOp X.prog X.w X.K X.mg X.base CA CQ p0 p1) {j : Nat} (hr : Room j X.A) (hj : 6 ≤ j) : OpR X (binaryOp .Add) (rA2 CA fun n d n' d' => (n * d' + n' * d, d * d')) := by
  obtain ⟨f, g, b, F, G⟩ := c.add
  show OpS X (binaryOp .Add) (fun _ => _)
  refine opSImp (opSOr (op_boL (op := .Add) (E := fun _ => E0) b PySem.F.fills_int_add WM.taken_int_add F (hr.mono hj) passS0) (op_boR (op := .Add) (E := fun _ => E0) b PySem.F.fills_int_add (fun h q => WM.try_int_add h q) G (hr.mono hj) passS0)) ?_
  rintro σ x y H Q ⟨n, d, n', d', t, b1, b2, q⟩
  rcases t.cases with ⟨hx, hy⟩ | ⟨rfl, rfl, hy⟩
  · obtain ⟨a, dx, ex, sx⟩ := hx.slt
    exact .inl ⟨a, dx, _, ex, sx, hy.sl, x, y, n, d, n', d', rfl, hx, hy, b1, b2, fun z H' e a => by rw [Int.one_mul] at a; exact q z H' e a⟩
  · obtain ⟨a, dx, ex, sx⟩ := hy.slt
    exact .inr ⟨a, dx, _, n, ex, sx, rfl, y, .int n, n', d', n, 1, rfl, hy, .inl ⟨rfl, rfl⟩, b2, b1, fun z H' e a => by rw [Int.one_mul, Int.add_comm, Int.mul_comm d' 1] at a; exact q z H' e a⟩
theorem op_subA (c : AmOp X.prog X.w X.K X.mg X.base CA CQ p0 p1) {j : Nat} (hr : Room j X.A) (hj : 6 ≤ j) : OpR X (binaryOp .Sub) (rA2 CA fun n d n' d' => (n * d' + -n' * d, d * d')) := by
  obtain ⟨f, g, b, F, G⟩ := c.sub
  show OpS X (binaryOp .Sub) (fun _ => _)
  refine opSImp (opSOr (op_boL (op := .Sub) (E := fun _ => E0) b PySem.F.fills_int_sub WM.taken_int_sub F (hr.mono hj) passS0) (op_boR (op := .Sub) (E := fun _ => E0) b PySem.F.fills_int_sub (fun h q => WM.try_int_sub h q) G (hr.mono hj) passS0)) ?_
  rintro σ x y H Q ⟨n, d, n', d', t, b1, b2, q⟩
  rcases t.cases with ⟨hx, hy⟩ | ⟨rfl, rfl, hy⟩
  · obtain ⟨a, dx, ex, sx⟩ := hx.slt
    exact .inl ⟨a, dx, _, ex, sx, hy.sl, x, y, n, d, n', d', rfl, hx, hy, b1, b2, fun z H' e a => by rw [show -1 * n' * d = -n' * d by rw [Int.neg_one_mul]] at a; exact q z H' e a⟩
  · obtain ⟨a, dx, ex, sx⟩ := hy.slt
    exact .inr ⟨a, dx, _, n, ex, sx, rfl, y, .int n, n', d', n, 1, rfl, hy, .inl ⟨rfl, rfl⟩, b2, b1, fun z H' e a => by rw [show -1 * n' * 1 = -n' * 1 by rw [Int.neg_one_mul]] at a; exact q z H' e a⟩
theorem op_mulA (c : AmOp X.prog X.w X.K X.mg X.base CA CQ p0 p1) {j : Nat} (hr : Room j X.A) (hj : 6 ≤ j) : OpR X (binaryOp .Mult) (rA2 CA fun n d n' d' => (n * n', d * d')) := by
  obtain ⟨f, g, b, F, G⟩ := c.mul
  show OpS X (binaryOp .Mult) (fun _ => _)
  refine opSImp (opSOr (op_boL (op := .Mult) (E := fun _ => E0) b PySem.F.fills_int_mul WM.taken_int_mul F (hr.mono hj) passS0) (op_boR (op := .Mult) (E := fun _ => E0) b PySem.F.fills_int_mul (fun h q => WM.try_int_mul h q) G (hr.mono hj) passS0)) ?_
  rintro σ x y H Q ⟨n, d, n', d', t, b1, b2, q⟩
  rcases t.cases with ⟨hx, hy⟩ | ⟨rfl, rfl, hy⟩
  · obtain ⟨a, dx, ex, sx⟩ := hx.slt
    exact .inl ⟨a, dx, _, ex, sx, hy.sl, x, y, n, d, n', d', rfl, hx, hy, b1, b2, fun z H' e a => q z H' e a⟩
  · obtain ⟨a, dx, ex, sx⟩ := hy.slt
    exact .inr ⟨a, dx, _, n, ex, sx, rfl, y, .int n, n', d', n, 1, rfl, hy, .inl ⟨rfl, rfl⟩, b2, b1, fun z H' e a => by rw [Int.mul_comm n' n, Int.mul_comm d' 1] at a; exact q z H' e a⟩
/-- x // y: a new amount, or NoQuotient of x -/
def rQuo (CA CQ : Addr) (W : WX) : L2.St → R2 := fun σ x y H Q => ∃ n d n' d', Two CA H x y n d n' d' ∧ Opd n d ∧ Opd n' d' ∧ (n' ≠ 0 → ∀ z H', Ex H H' → Am CA H' z (FrM.num (n * d') (d * n')) (FrM.den (n * d') (d * n')) → Q z H') ∧
  (n' = 0 → ∀ dx H', Ex H H' → H' dx = none → W (.ref CQ) (some dx) σ (upd H' dx (.xd [("value", x)])))
theorem op_quoA {W : WX} (c : AmOp X.prog X.w X.K X.mg X.base CA CQ p0 p1) {j : Nat} (hr : Room j X.A) (hj : 6 ≤ j) (tk : PassesS (L2.CX X.prog X.w) X (fun σ cls d H => W cls d σ H)) : OpS X (binaryOp .FloorDiv) (rQuo CA CQ W) := by
  obtain ⟨f, g, b, F, G⟩ := c.quo
  refine opSImp (opSOr (op_boL (op := .FloorDiv) b PySem.F.fills_int_floordiv WM.taken_int_floordiv F (hr.mono hj) tk) (op_boR (op := .FloorDiv) b PySem.F.fills_int_floordiv (fun h q => WM.try_int_floordiv h q) G (hr.mono hj) tk)) ?_
  rintro σ x y H Q ⟨n, d, n', d', t, b1, b2, q, q'⟩
  rcases t.cases with ⟨hx, hy⟩ | ⟨rfl, rfl, hy⟩
  · obtain ⟨a, dx, ex, sx⟩ := hx.slt
    exact .inl ⟨a, dx, _, ex, sx, hy.sl, x, y, rfl, ⟨x, y, n, d, n', d', rfl, .inr hx, hy, b1, b2, q, q'⟩, hy.ty c.am⟩
  · obtain ⟨a, dx, ex, sx⟩ := hy.slt
    exact .inr ⟨a, dx, _, n, ex, sx, rfl, y, .int n, rfl, ⟨.int n, y, n, 1, n', d', rfl, .inl ⟨rfl, rfl⟩, .inr hy, b1, b2, q, q'⟩, .int, .b (.int n), .inl rfl⟩
def rA1 (CA : Addr) (g : Int → Int) : V → Hp → VK → Prop := fun x H Q => ∃ n d, Am CA H x n d ∧ Opd n d ∧ ∀ z H', Ex H H' → Am CA H' z (FrM.num (g n) d) (FrM.den (g n) d) → Q z H'
theorem un_negA (c : AmOp X.prog X.w X.K X.mg X.base CA CQ p0 p1) {j : Nat} (hr : Room j X.A) (hj : 4 ≤ j) : UnR X (unaryOp .USub) (rA1 CA fun n => -n) := by
  obtain ⟨f, h1, h2, F⟩ := c.neg
  have z := un_negOwn (E := E0) h1 h2 F (hr.mono hj) pass0
  intro pins s σ H x v Q I rx h
  obtain ⟨n, d, hx, b, q⟩ := h
  obtain ⟨a, dx, ex, sx⟩ := hx.slt
  exact z pins s σ H x v Q I rx ⟨a, dx, _, ex, sx, _, n, d, rfl, hx, b, q⟩
theorem call_absA (c : AmOp X.prog X.w X.K X.mg X.base CA CQ p0 p1) {j : Nat} (hr : Room j X.A) (hj : 5 ≤ j) : CallR X (.builtin "abs") (fun xs H Q => ∃ x, xs = [x] ∧ rA1 CA (fun n => (n.natAbs : Int)) x H Q) := by
  obtain ⟨f, h1, h2, F⟩ := c.abs
  have z := call_absOwn (E := E0) h1 h2 F (hr.mono hj) pass0
  intro pins s σ H xs us Q I r h
  obtain ⟨x, rfl, n, d, hx, b, q⟩ := h
  obtain ⟨a, dx, ex, sx⟩ := hx.slt
  exact z pins s σ H [x] us Q I r ⟨_, a, dx, _, rfl, ex, sx, _, n, d, rfl, hx, b, q⟩
end
/-! ### the law's draws -/
abbrev s_law_jar : Stmt := top 19
abbrev N_law_jar : List Str := ["_law_script", "_law_k", "_law_cell", "_law_own", "_law_mixed"]
theorem sc_law_jar : FnScope N_law_jar ["_law_script", "_law_k"] (defScope s_law_jar) := ⟨rfl, rfl, rfl, by decide +kernel, rfl, by decide +kernel, by decide +kernel⟩
def sp_jar (K : PySem.W.Frag) : Sp := fun vs H Q _ => ∃ (a : Addr) (k : Int) (ns : List Int), vs = [.ref a, .int k] ∧ SqL K H a (ns.map V.int) ∧ 0 ≤ k ∧ k ≤ 100 ∧ ∀ p H', H p = none → Ex H H' → Jar H' p 1000000000 → Q (.ref p) H'
theorem big_pos : (0 : Int) < ((10 : Int) ^ (60 : Int).toNat) ^ (5 : Int).toNat := by decide +kernel
theorem big_lt : ((10 : Int) ^ (60 : Int).toNat) ^ (5 : Int).toNat < 2 ^ 1000 := by decide +kernel
theorem big_pow : CPowW ((10 : Int) ^ (60 : Int).toNat) 5 := by
  unfold CPowW
  decide +kernel
theorem b01 (b : Bool) : -(2 ^ 64) < (if b = true then (1 : Int) else 0) ∧ (if b = true then (1 : Int) else 0) < 2 ^ 64 := by cases b <;> decide
theorem b01m {x m : Int} (h0 : 0 ≤ x) (h1 : x < m) (b : Bool) : 0 ≤ x * (if b = true then (1 : Int) else 0) ∧ x * (if b = true then (1 : Int) else 0) < m := by
  cases b
  · rw [if_neg Bool.false_ne_true, Int.mul_zero]
    exact ⟨Int.le_refl _, Int.lt_of_le_of_lt h0 h1⟩
  · rw [if_pos rfl, Int.mul_one]
    exact ⟨h0, h1⟩
theorem ok_jar {f : Addr} {fd : FuncData} (F : L2.Fun K "_law_jar" "_law_jar" s_law_jar f fd) (T : Txt K mg CA p0 p1) : FnOk P w K mg base CX0 1 f fd ["_law_script", "_law_k"] (sp_jar K) := by
  refine F.ok sc_law_jar (fun vs H Q E h => ?_) (fun cdv A outer s H vs Q E hr h => ?_)
  · obtain ⟨a, k, ns, rfl, _⟩ := h
    rfl
  · obtain ⟨a, k, ns, rfl, hS, h0, h1, q⟩ := h
    refine ⟨_, (pss_cons (ps_set (i := 2) sc_law_jar.nd rfl (Or.inl rfl) (pe_ifExp (pt_cmpR op_lt (pv 1) (pe_callB call_len_seq (by rfl) T.z_len PySem.boot_len (pa_cons (pv 0) pa_nil)) (nomark _)) (pe_ix ix_list (pv 0) (pv 1) (fun _ _ => rfl)) (pe_op op_add (pe_op op_mul pe_int (pv 1)) pe_int)))
      (pss_cons (ps_set (i := 3) sc_law_jar.nd rfl (Or.inl rfl) (pe_op op_mul (pe_op op_mod (pe_callTy call_int1 (by rfl) T.z_int (by decide +kernel) (pa_cons (pe_callB call_abs (by rfl) T.z_abs (by decide +kernel) (pa_cons (pv 2) pa_nil)) pa_nil)) (pe_op op_powW (pe_op op_pow pe_int pe_int) pe_int)) (pe_callTy call_int1 (by rfl) T.z_int (by decide +kernel) (pa_cons (pe_cmpR op_ge (pe_callB call_abs (by rfl) T.z_abs (by decide +kernel) (pa_cons (pv 2) pa_nil)) (pe_op op_pow pe_int pe_int) (nomark _)) pa_nil))))
      (pss_cons (ps_set (i := 4) sc_law_jar.nd rfl (Or.inl rfl) (pe_callTy call_int1 (by rfl) T.z_int (by decide +kernel) (pa_cons (pe_op op_add (pe_op op_add (pe_op op_mul (pe_op op_mod (pe_callTy call_int1 (by rfl) T.z_int (by decide +kernel) (pa_cons (pv 2) pa_nil)) pe_int) pe_int) (pe_op op_mul (pe_op op_mul pe_int (pv 1)) (pv 1))) pe_int) pa_nil)))
      (pss_one (ps_ret (pe_lst (pa_cons (pv 3) (pa_cons (pe_op op_mod (pv 4) pe_int) (pa_cons pe_int pa_nil))))))))), ?_⟩
    -- which cell
    have cut : ∀ (t u : TS) (D : Ends) (σ : L2.St) (Hh : Hp) (e : TE), (∀ Q : VK, (∀ c : Int, Q (.int c) Hh) → e σ Hh Q) → (∀ c : Int, u D (σ.set 2 (some (.int c))) Hh) → tSeq (tAsg e (gName 2)) u D σ Hh := fun _ u D σ Hh e he hu => he _ hu
    refine cut tNext _ _ _ _ _ (fun Q' q' => ?_) (fun c => ?_)
    · refine ⟨_, rfl, _, rfl, _, _, rfl, .inl hS, _, _, rfl, rfl, _, rfl, ?_⟩
      refine ite2 (fun h => ?_) (fun _ => ?_)
      · have hk : k.toNat < ns.length := by
          have := of_decide_eq_true h
          rw [List.length_map] at this
          omega
        have ek : k = ((k.toNat : Nat) : Int) := by omega
        refine ⟨_, rfl, _, rfl, a, _, _, .int ns[k.toNat], rfl, rfl, hS, ?_, q' _⟩
        have ea := atI_nat (xs := ns.map V.int) (j := k.toNat) (v := .int ns[k.toNat]) (by rw [List.getElem?_map, List.getElem?_eq_getElem hk]; rfl)
        rw [← ek] at ea
        exact ea
      · exact ⟨_, rfl, _, _, rfl, rfl, .inl ⟨by decide, by decide⟩, _, _, rfl, rfl, q' _⟩
    · -- own
      refine ⟨_, rfl, _, rfl, .inl ⟨_, rfl, _, _, rfl, rfl, ⟨by decide, by decide, by decide⟩, _, _, rfl, rfl, big_pow, _, _, rfl, rfl, big_pos, ?_⟩⟩
      refine ⟨_, rfl, _, rfl, _, _, rfl, rfl, ⟨by decide, by decide, by decide⟩, _, _, rfl, rfl, .inr ⟨_, rfl, ?_⟩⟩
      refine ⟨_, _, rfl, rfl, .inr (b01 _), ?_⟩
      -- mixed
      refine ⟨_, rfl, .inl ⟨_, rfl, _, _, rfl, rfl, by show (0 : Int) < 2305843009213693951; decide, _, _, rfl, rfl, .inr ⟨by decide, by decide⟩, ?_⟩⟩
      refine ⟨_, rfl, _, _, rfl, rfl, .inl ⟨by decide, by decide⟩, _, rfl, _, _, rfl, rfl, .inr ⟨by omega, by omega⟩, _, _, rfl, rfl, _, _, rfl, rfl, .inl ⟨_, rfl, ?_⟩⟩
      refine ⟨_, rfl, _, rfl, _, _, rfl, rfl, by show (0 : Int) < 2305843009213693921; decide, by show 3 ≤ sizeLine; decide, fun p hp => ?_⟩
      refine q p _ hp (Evl.Ex.new hp) ⟨_, _, _, upd_same, ?_⟩
      have n1 := Int.emod_nonneg (if c < 0 then -c else c) (Int.ne_of_gt big_pos)
      have n2 := Int.emod_lt_of_pos (if c < 0 then -c else c) big_pos
      have n3 := big_lt
      have n4 : ∀ x : Int, 0 ≤ x % 2305843009213693921 ∧ x % 2305843009213693921 < 2 ^ 62 := fun x => by omega
      exact ⟨(b01m n1 (Int.lt_trans n2 n3) _).1, (b01m n1 (Int.lt_trans n2 n3) _).2, (n4 _).1, (n4 _).2, by decide, by decide⟩
abbrev s_law_take : Stmt := top 20
abbrev N_law_take : List Str := ["_law_jar_here", "_law_upto", "_law_digit", "_law_prime", "_law_mixed"]
theorem sc_law_take : FnScope N_law_take ["_law_jar_here", "_law_upto"] (defScope s_law_take) := ⟨rfl, rfl, rfl, by decide +kernel, rfl, by decide +kernel, by decide +kernel⟩
def sp_take : Sp := fun vs H Q _ => ∃ (p : Addr) (m : Int) (n : Nat), vs = [.ref p, .int m] ∧ 0 < m ∧ m < 1073741824 ∧ Jar H p (n + 1) ∧ ∀ i H', 0 ≤ i → i < m → Keep p H H' → Jar H' p n → Q (.int i) H'
theorem pow3 {x : Int} (h : x.natAbs < 2 ^ 100) : CPowW x 3 := by
  have h1 : x.natAbs.log2 < 100 := PySem.Flt.log2_lt_of (by decide) h
  have h2 : Builtin.Int.intBits x ≤ x.natAbs.log2 + 1 := by
    unfold Builtin.Int.intBits
    split <;> omega
  refine ⟨by decide, ?_⟩
  have h3 : (Builtin.Int.intBits x : Int) * 3 ≤ 303 := by omega
  exact Int.le_trans h3 (by decide)
theorem five (c : Int) (a b d e f : Int) : ∃ v, atI [V.int a, V.int b, V.int d, V.int e, V.int f] (c % 5) = some (.int v) ∧ (v = a ∨ v = b ∨ v = d ∨ v = e ∨ v = f) := by
  have h : c % 5 = 0 ∨ c % 5 = 1 ∨ c % 5 = 2 ∨ c % 5 = 3 ∨ c % 5 = 4 := by omega
  rcases h with h | h | h | h | h <;> rw [h]
  · exact ⟨a, rfl, .inl rfl⟩
  · exact ⟨b, rfl, .inr (.inl rfl)⟩
  · exact ⟨d, rfl, .inr (.inr (.inl rfl))⟩
  · exact ⟨e, rfl, .inr (.inr (.inr (.inl rfl)))⟩
  · exact ⟨f, rfl, .inr (.inr (.inr (.inr rfl)))⟩
theorem ok_take {f : Addr} {fd : FuncData} (F : L2.Fun K "_law_take" "_law_take" s_law_take f fd) (T : Txt K mg CA p0 p1) : FnOk P w K mg base CX0 1 f fd ["_law_jar_here", "_law_upto"] sp_take := by
  refine F.ok sc_law_take (fun vs H Q E h => ?_) (fun cdv A outer s H vs Q E hr h => ?_)
  · obtain ⟨p, m, n, rfl, _⟩ := h
    rfl
  · obtain ⟨p, m, n, rfl, hm, hm2, ⟨a, b, c, hj, ha, ha2, hb, hb2, hc, hc2⟩, q⟩ := h
    refine ⟨_, (pss_cons (ps_if (pt_cmpR op_gt (pe_ix ix_list (pv 0) pe_int (fun _ _ => rfl)) pe_int (nomark _)) (pss_cons (ps_set (i := 2) sc_law_take.nd rfl (Or.inl rfl) (pe_op op_mod (pe_callTy call_int1 (by rfl) T.z_int (by decide +kernel) (pa_cons (pe_ix ix_list (pv 0) pe_int (fun _ _ => rfl)) pa_nil)) (pv 1)))
      (pss_cons (ps_asg (pe_op op_fdiv (pe_ix ix_list (pv 0) pe_int (fun _ _ => rfl)) (pv 1)) (pg_sub (pv 0) pe_int set_list))
      (pss_one (ps_ret (pv 2))))) pss_nil)
      (pss_cons (ps_asg (pe_op op_add (pe_ix ix_list (pv 0) pe_int (fun _ _ => rfl)) pe_int) (pg_sub (pv 0) pe_int set_list))
      (pss_cons (ps_set (i := 3) sc_law_take.nd rfl (Or.inl rfl) (pe_ix ix_list (pe_lst (pa_cons pe_int (pa_cons pe_int (pa_cons pe_int (pa_cons pe_int (pa_cons pe_int pa_nil)))))) (pe_op op_mod (pe_callTy call_int1 (by rfl) T.z_int (by decide +kernel) (pa_cons (pe_ix ix_list (pv 0) pe_int (fun _ _ => rfl)) pa_nil)) pe_int) (fun _ _ => rfl)))
      (pss_cons (ps_set (i := 4) sc_law_take.nd rfl (Or.inl rfl) (pe_op op_mod (pe_callTy call_int1 (by rfl) T.z_int (by decide +kernel) (pa_cons (pe_op op_powW (pe_callTy call_int1 (by rfl) T.z_int (by decide +kernel) (pa_cons (pe_op op_add (pe_op op_add (pe_ix ix_list (pv 0) pe_int (fun _ _ => rfl)) (pe_op op_mul (pe_op op_mul pe_int (pe_ix ix_list (pv 0) pe_int (fun _ _ => rfl))) (pe_ix ix_list (pv 0) pe_int (fun _ _ => rfl)))) pe_int) pa_nil)) pe_int) pa_nil)) (pv 3)))
      (pss_one (ps_ret (pe_op op_mod (pe_callTy call_int1 (by rfl) T.z_int (by decide +kernel) (pa_cons (pe_op op_fdiv (pe_op op_mul (pv 4) (pe_op op_add (pe_op op_mod (pe_callTy call_int1 (by rfl) T.z_int (by decide +kernel) (pa_cons (pv 4) pa_nil)) pe_int) (pe_op op_mul pe_int (pe_ix ix_list (pv 0) pe_int (fun _ _ => rfl))))) pe_int) pa_nil)) (pv 1)))))))), ?_⟩
    have hm0 : m ≠ 0 := by omega
    refine ⟨_, rfl, p, _, _, _, rfl, rfl, SqL.of hj, rfl, _, _, rfl, rfl, _, rfl, ?_⟩
    refine ite2 (fun h => ?_) (fun _ => ?_)
    · refine ⟨_, rfl, p, _, _, _, rfl, rfl, SqL.of hj, rfl, .inl ⟨_, rfl, _, rfl, _, _, rfl, rfl, hm, ?_⟩⟩
      refine ⟨_, rfl, p, _, _, _, rfl, rfl, SqL.of hj, rfl, _, rfl, _, _, rfl, rfl, ⟨hm, hm2⟩, _, rfl, p, _, _, 0, rfl, rfl, hj, rfl, ?_⟩
      refine ⟨_, rfl, q _ _ (Int.emod_nonneg _ hm0) (Int.emod_lt_of_pos _ hm) (Keep.refl _ _).upd ⟨_, b, c, upd_same, Int.ediv_nonneg ha (by omega), ?_, hb, hb2, hc, by omega⟩⟩
      exact Int.lt_of_le_of_lt (Int.ediv_le_self m ha) ha2
    · -- jar[2] = jar[2] + 1
      refine ⟨_, rfl, p, _, _, _, rfl, rfl, SqL.of hj, rfl, _, _, rfl, rfl, _, rfl, p, _, _, 2, rfl, rfl, hj, rfl, ?_⟩
      have hj1 : upd H p (.lst [.int a, .int b, .int (c + 1)]) p = some (.lst [.int a, .int b, .int (c + 1)]) := upd_same
      -- the prime
      refine ⟨by show 5 ≤ sizeLine; decide, fun l hl => ?_⟩
      have np : p ≠ l := ne_of_none hj1 hl
      have hj2 : ∀ o, upd (upd H p (.lst [.int a, .int b, .int (c + 1)])) l o p = some (.lst [.int a, .int b, .int (c + 1)]) := fun o => by rw [upd_ne np]; exact hj1
      obtain ⟨v, ev, hv⟩ := five (c + 1) 2147483647 2147483629 2147483587 2147483579 2147483563
      have hv1 : 0 < v ∧ v < 2147483648 := by omega
      refine ⟨_, rfl, p, _, _, _, rfl, rfl, SqL.of (hj2 _), rfl, .inl ⟨_, rfl, _, _, rfl, rfl, by show (0 : Int) < 5; decide, l, _, _, _, rfl, rfl, SqL.of upd_same, ev, ?_⟩⟩
      -- mixed
      refine ⟨_, rfl, p, _, _, _, rfl, rfl, SqL.of (hj2 _), rfl, _, rfl, p, _, _, _, rfl, rfl, SqL.of (hj2 _), rfl, _, _, rfl, rfl, .inl ⟨by decide, by decide⟩, ?_⟩
      refine ⟨_, rfl, p, _, _, _, rfl, rfl, SqL.of (hj2 _), rfl, _, _, rfl, rfl, .inr ⟨by omega, by omega⟩, _, _, rfl, rfl, _, _, rfl, rfl, .inl ⟨_, rfl, ?_⟩⟩
      refine ⟨_, _, rfl, rfl, pow3 ?_, .inl ⟨_, rfl, _, rfl, _, _, rfl, rfl, hv1.1, ?_⟩⟩
      · have hc3 : (c + 1) * (c + 1) ≤ 1000000001 * 1000000001 := Int.mul_le_mul (by omega) (by omega) (by omega) (by omega)
        have hc4 : 0 ≤ (c + 1) * (c + 1) := Int.mul_nonneg (by omega) (by omega)
        rw [Int.mul_assoc]
        omega
      have hmix := fun x : Int => And.intro (Int.emod_nonneg x (show v ≠ 0 by omega)) (Int.emod_lt_of_pos x hv1.1)
      refine ⟨_, rfl, _, rfl, .inl ⟨_, rfl, _, _, rfl, rfl, by show (0 : Int) < 10007; decide, _, rfl, p, _, _, _, rfl, rfl, SqL.of (hj2 _), rfl, _, _, rfl, rfl, .inl ⟨by decide, by decide⟩, ?_⟩⟩
      refine ⟨_, _, rfl, rfl, _, _, rfl, rfl, .inl ⟨Int.lt_of_lt_of_le (by decide) (hmix _).1, Int.lt_trans (hmix _).2 (by omega)⟩, _, _, rfl, rfl, ⟨by decide, by decide⟩, .inl ⟨_, rfl, _, rfl, _, _, rfl, rfl, hm, ?_⟩⟩
      exact q _ _ (Int.emod_nonneg _ hm0) (Int.emod_lt_of_pos _ hm) ((Keep.refl _ _).upd.new hl) ⟨a, b, c + 1, hj2 _, ha, ha2, hb, hb2, by omega, by omega⟩
abbrev s_law_of : Stmt := top 21
abbrev N_law_of : List Str := ["_law_jar_here", "_law_some"]
theorem sc_law_of : FnScope N_law_of ["_law_jar_here", "_law_some"] (defScope s_law_of) := ⟨rfl, rfl, rfl, by decide +kernel, rfl, by decide +kernel, by decide +kernel⟩
def sp_of (K : PySem.W.Frag) : Sp := fun vs H Q _ => ∃ (p l : Addr) (n : Nat) (xs : List V), vs = [.ref p, .ref l] ∧ Jar H p (n + 1) ∧ H l = some (.lst xs) ∧ l ≠ p ∧ 0 < xs.length ∧ xs.length < 1073741824 ∧ ∀ (i : Nat) x H', xs[i]? = some x → Keep p H H' → Jar H' p n → Q x H'
theorem ok_of {f : Addr} {fd : FuncData} (F : L2.Fun K "_law_of" "_law_of" s_law_of f fd) (T : Txt K mg CA p0 p1) (c_law_take : Cal P w K mg base 1 "_law_take" sp_take []) : FnOk P w K mg base CX0 2 f fd ["_law_jar_here", "_law_some"] (sp_of K) := by
  refine F.ok sc_law_of (fun vs H Q E h => ?_) (fun cdv A outer s H vs Q E hr h => ?_)
  · obtain ⟨p, l, n, xs, rfl, _⟩ := h
    rfl
  · obtain ⟨p, l, n, xs, rfl, hj, hl, hne, h1, h2, q⟩ := h
    refine ⟨_, (pss_one (ps_ret (pe_ix ix_list (pv 1) (pe_cal c_law_take hr (by decide) rfl (pa_cons (pv 0) (pa_cons (pe_callB call_len_seq (by rfl) T.z_len PySem.boot_len (pa_cons (pv 1) pa_nil)) pa_nil))) (fun _ _ => rfl)))), ?_⟩
    refine ⟨_, rfl, _, rfl, _, rfl, _, _, rfl, .inl (SqL.of hl), p, _, n, rfl, by omega, by omega, hj, fun i H' i0 i1 k j => ?_⟩
    have hi : i.toNat < xs.length := by omega
    have ei : i = ((i.toNat : Nat) : Int) := by omega
    have ea := atI_nat (xs := xs) (j := i.toNat) (v := xs[i.toNat]) (List.getElem?_eq_getElem hi)
    rw [← ei] at ea
    exact ⟨l, xs, _, _, rfl, rfl, SqL.of (k l _ hne hl), ea, q i.toNat _ H' (List.getElem?_eq_getElem hi) k j⟩
/-! ### the law's own fractions -/
abbrev s_law_frac : Stmt := top 22
abbrev N_law_frac : List Str := ["_law_number_here", "_law_under", "_law_one", "_law_other", "_law_sign"]
theorem sc_law_frac : FnScope N_law_frac ["_law_number_here", "_law_under"] (defScope s_law_frac) := ⟨rfl, rfl, rfl, by decide +kernel, rfl, by decide +kernel, by decide +kernel⟩
def sp_frac : Sp := fun vs H Q _ => ∃ n u : Int, vs = [.int n, .int u] ∧ u ≠ 0 ∧ u.natAbs < 2 ^ 9000 ∧ ∀ p H', H p = none → Ex H H' → H' p = some (.tup [.int (FrM.num n u), .int (FrM.den n u)]) → Q (.ref p) H'
theorem ok_frac {f : Addr} {fd : FuncData} (F : L2.Fun K "_law_frac" "_law_frac" s_law_frac f fd) (T : Txt K mg CA p0 p1) : FnOk P w K mg base CX0 1 f fd ["_law_number_here", "_law_under"] sp_frac := by
  refine F.ok sc_law_frac (fun vs H Q E h => ?_) (fun cdv A outer s H vs Q E hr h => ?_)
  · obtain ⟨n, u, rfl, _⟩ := h
    rfl
  · obtain ⟨n, u, rfl, hu, hb, q⟩ := h
    refine ⟨_, (pss_cons (ps_par (i := 2) (j := 3) rfl sc_law_frac.nd rfl rfl (by decide) rfl rfl (pa_cons (pe_callB call_abs (by rfl) T.z_abs (by decide +kernel) (pa_cons (pv 0) pa_nil)) (pa_cons (pe_callB call_abs (by rfl) T.z_abs (by decide +kernel) (pa_cons (pv 1) pa_nil)) pa_nil)) rfl)
      (pss_cons (ps_while PassesOwn.never (pt_cmpR op_gt (pv 3) pe_int (nomark _)) (pss_one (ps_par (i := 2) (j := 3) rfl sc_law_frac.nd rfl rfl (by decide) rfl rfl (pa_cons (pv 3) (pa_cons (pe_op op_mod (pe_callTy call_int1 (by rfl) T.z_int (by decide +kernel) (pa_cons (pv 2) pa_nil)) (pe_callTy call_int1 (by rfl) T.z_int (by decide +kernel) (pa_cons (pv 3) pa_nil))) pa_nil)) rfl)))
      (pss_cons (ps_set (i := 4) sc_law_frac.nd rfl (Or.inl rfl) (pe_ifExp (pt_cmpR op_gt (pv 1) pe_int (nomark _)) pe_int (pe_un un_neg pe_int)))
      (pss_one (ps_ret (pe_tup (pa_cons (pe_op op_fdivX (pe_op op_mul (pv 4) (pv 0)) (pv 2)) (pa_cons (pe_op op_fdivX (pe_op op_mul (pv 4) (pv 1)) (pv 2)) pa_nil)))))))), ?_⟩
    refine ⟨_, rfl, _, rfl, _, rfl, _, rfl, _, _, rfl, ?_⟩
    have hg : 0 < FrM.g n u := FrM.g_pos hu
    have hgl : FrM.g n u ≤ u.natAbs := FrM.g_le hu
    refine while_a (fun m σ H' => ∃ x y : Int, σ = [some (.int n), some (.int u), some (.int x), some (.int y), none] ∧ H' = H ∧ 0 ≤ x ∧ 0 ≤ y ∧ m = y.toNat ∧ Nat.gcd x.natAbs y.natAbs = FrM.g n u) ((u.natAbs : Int).toNat) ⟨(n.natAbs : Int), (u.natAbs : Int), by rw [← abs_eq n, ← abs_eq u]; rfl, rfl, by omega, by omega, rfl, by unfold FrM.g; rw [Int.natAbs_natCast, Int.natAbs_natCast]⟩ ?_
    rintro m σ H' ⟨x, y, rfl, rfl, hx, hy, rfl, e⟩
    refine ⟨decide (0 < y), fun Q q => ⟨_, rfl, _, _, rfl, rfl, _, rfl, q⟩, fun hb1 N hN => ?_, fun hb1 => ?_⟩
    · have hy0 : 0 < y := of_decide_eq_true hb1
      refine ⟨_, rfl, _, rfl, .inl ⟨_, rfl, _, rfl, .inl ⟨_, rfl, _, _, rfl, rfl, hy0, _, _, rfl, ?_⟩⟩⟩
      have e2 : x % y = x.fmod y := (Int.fmod_eq_emod_of_nonneg x hy).symm
      have h1 := Int.emod_lt_of_pos x hy0
      have h2 := Int.emod_nonneg x (show y ≠ 0 by omega)
      refine hN (x % y).toNat _ _ (by omega) ⟨y, x % y, rfl, rfl, hy, h2, rfl, ?_⟩
      rw [e2, FrM.gcd_turn hx hy0]
      exact e
    · have hy0 : y = 0 := by have := of_decide_eq_false hb1; omega
      subst hy0
      have ex : (x : Int) = (FrM.g n u : Int) := by
        rw [← e]
        simp
        omega
      have hbl : x.natAbs.log2 < 9000 := log2_9000 (by rw [ex, Int.natAbs_natCast]; exact Nat.lt_of_le_of_lt hgl hb)
      have fin : ∀ sg : Int, sg = (if 0 < u then 1 else -1) → (tRet (tTup (tCons (tOp (rI CDivX fun i j => V.int (i.fdiv j)) (tOp (rI CMul fun i j => V.int (i * j)) (tVar 4) (tVar 0)) (tVar 2)) (tCons (tOp (rI CDivX fun i j => V.int (i.fdiv j)) (tOp (rI CMul fun i j => V.int (i * j)) (tVar 4) (tVar 1)) (tVar 2)) tNil)))) { nx := fun x H' => Q V.non H', rt := Q } [some (.int n), some (.int u), some (.int x), some (.int 0), some (.int sg)] H' := by
        intro sg esg
        have hs : -(2 ^ 64) < sg ∧ sg < 2 ^ 64 := by
          rw [esg]
          split <;> decide
        refine ⟨_, rfl, _, rfl, _, _, rfl, rfl, .inl hs, _, rfl, _, _, rfl, rfl, ⟨by omega, hbl⟩, _, rfl, _, rfl, _, _, rfl, rfl, .inl hs, _, rfl, _, _, rfl, rfl, ⟨by omega, hbl⟩, by show 2 ≤ sizeLine; decide, fun p hp => ?_⟩
        refine q p _ hp (Evl.Ex.new hp) (upd_same.trans ?_)
        show some (HO.tup [V.int ((sg * n).fdiv x), V.int ((sg * u).fdiv x)]) = _
        rw [ex, esg, FrM.num_law hu, FrM.den_law hu]
      refine ⟨_, rfl, _, _, rfl, rfl, _, rfl, ?_⟩
      refine ite2 (fun h1 => ?_) (fun h1 => ?_)
      · exact fin 1 (if_pos (of_decide_eq_true h1)).symm
      · exact ⟨_, rfl, fin (-1) (if_neg fun z => h1 (decide_eq_true z)).symm⟩

end
end Lw

set_option exponentiation.threshold 10000
namespace Lw
open PySem PySem.Spec PyProof.Rows L2 SlX WU
open Evl (Ex)
section
variable {P : Program} {w : World} {K : PySem.W.Frag} {mg : Str → Option Value} {base : Heap} {CA p0 p1 CQ CM fM : Addr}
/-! ### the law's own fractions -/
/-- a pair of ints at p -/
def Pr (H : Hp) (p : Addr) (n d : Int) : Prop := H p = some (.tup [.int n, .int d])
theorem Pr.keep {H H' : Hp} {p q : Addr} {n d : Int} {m : Nat} (x : Pr H q n d) (k : Keep p H H') (j : Jar H p m) : Pr H' q n d := k.at j x (fun _ z => nomatch z)
theorem Pr.ext {H H' : Hp} {q : Addr} {n d : Int} (x : Pr H q n d) (e : Ex H H') : Pr H' q n d := e _ _ x
abbrev s_law_plus : Stmt := top 23
abbrev N_law_plus : List Str := ["_law_one", "_law_other"]
theorem sc_law_plus : FnScope N_law_plus ["_law_one", "_law_other"] (defScope s_law_plus) := ⟨rfl, rfl, rfl, by decide +kernel, rfl, by decide +kernel, by decide +kernel⟩
def sp_lplus : Sp := fun vs H Q _ => ∃ (p q : Addr) (n d n' d' : Int), vs = [.ref p, .ref q] ∧ Pr H p n d ∧ Pr H q n' d' ∧ Opd n d ∧ Opd n' d' ∧ ∀ r H', Ex H H' → Pr H' r (FrM.num (n * d' + n' * d) (d * d')) (FrM.den (n * d' + n' * d) (d * d')) → Q (.ref r) H'
theorem ok_plus {f : Addr} {fd : FuncData} (F : L2.Fun K "_law_plus" "_law_plus" s_law_plus f fd) (T : Txt K mg CA p0 p1) (c_law_frac : Cal P w K mg base 1 "_law_frac" sp_frac []) : FnOk P w K mg base CX0 2 f fd ["_law_one", "_law_other"] sp_lplus := by
  refine F.ok sc_law_plus (fun vs H Q E h => ?_) (fun cdv A outer s H vs Q E hr h => ?_)
  · obtain ⟨p, q, n, d, n', d', rfl, _⟩ := h
    rfl
  · obtain ⟨p, q, n, d, n', d', rfl, h1, h2, b1, b2, k⟩ := h
    refine ⟨_, (pss_one (ps_ret (pe_cal c_law_frac hr (by decide) rfl (pa_cons (pe_op op_add (pe_op op_mulW (pe_ix ix_tup (pv 0) pe_int (fun _ _ => rfl)) (pe_ix ix_tup (pv 1) pe_int (fun _ _ => rfl))) (pe_op op_mulW (pe_ix ix_tup (pv 1) pe_int (fun _ _ => rfl)) (pe_ix ix_tup (pv 0) pe_int (fun _ _ => rfl)))) (pa_cons (pe_op op_mulW (pe_ix ix_tup (pv 0) pe_int (fun _ _ => rfl)) (pe_ix ix_tup (pv 1) pe_int (fun _ _ => rfl))) pa_nil))))), ?_⟩
    refine ⟨_, rfl, p, _, _, _, rfl, rfl, SqT.of h1, rfl, _, rfl, q, _, _, _, rfl, rfl, SqT.of h2, rfl, _, _, rfl, rfl, mul9 b1.bn b2.bd, ?_⟩
    refine ⟨_, rfl, q, _, _, _, rfl, rfl, SqT.of h2, rfl, _, rfl, p, _, _, _, rfl, rfl, SqT.of h1, rfl, _, _, rfl, rfl, mul9 b2.bn b1.bd, ?_⟩
    refine ⟨_, _, rfl, rfl, ?_⟩
    refine ⟨_, rfl, p, _, _, _, rfl, rfl, SqT.of h1, rfl, _, rfl, q, _, _, _, rfl, rfl, SqT.of h2, rfl, _, _, rfl, rfl, mul9 b1.bd b2.bd, ?_⟩
    exact ⟨_, _, rfl, Int.mul_ne_zero b1.nz b2.nz, den9 b1.bd b2.bd, fun r H' _ e g => k r H' e g⟩
abbrev s_law_times : Stmt := top 24
abbrev N_law_times : List Str := ["_law_one", "_law_other"]
theorem sc_law_times : FnScope N_law_times ["_law_one", "_law_other"] (defScope s_law_times) := ⟨rfl, rfl, rfl, by decide +kernel, rfl, by decide +kernel, by decide +kernel⟩
def sp_ltimes : Sp := fun vs H Q _ => ∃ (p q : Addr) (n d n' d' : Int), vs = [.ref p, .ref q] ∧ Pr H p n d ∧ Pr H q n' d' ∧ Opd n d ∧ Opd n' d' ∧ ∀ r H', Ex H H' → Pr H' r (FrM.num (n * n') (d * d')) (FrM.den (n * n') (d * d')) → Q (.ref r) H'
theorem ok_times {f : Addr} {fd : FuncData} (F : L2.Fun K "_law_times" "_law_times" s_law_times f fd) (T : Txt K mg CA p0 p1) (c_law_frac : Cal P w K mg base 1 "_law_frac" sp_frac []) : FnOk P w K mg base CX0 2 f fd ["_law_one", "_law_other"] sp_ltimes := by
  refine F.ok sc_law_times (fun vs H Q E h => ?_) (fun cdv A outer s H vs Q E hr h => ?_)
  · obtain ⟨p, q, n, d, n', d', rfl, _⟩ := h
    rfl
  · obtain ⟨p, q, n, d, n', d', rfl, h1, h2, b1, b2, k⟩ := h
    refine ⟨_, (pss_one (ps_ret (pe_cal c_law_frac hr (by decide) rfl (pa_cons (pe_op op_mulW (pe_ix ix_tup (pv 0) pe_int (fun _ _ => rfl)) (pe_ix ix_tup (pv 1) pe_int (fun _ _ => rfl))) (pa_cons (pe_op op_mulW (pe_ix ix_tup (pv 0) pe_int (fun _ _ => rfl)) (pe_ix ix_tup (pv 1) pe_int (fun _ _ => rfl))) pa_nil))))), ?_⟩
    refine ⟨_, rfl, p, _, _, _, rfl, rfl, SqT.of h1, rfl, _, rfl, q, _, _, _, rfl, rfl, SqT.of h2, rfl, _, _, rfl, rfl, mul9 b1.bn b2.bn, ?_⟩
    refine ⟨_, rfl, p, _, _, _, rfl, rfl, SqT.of h1, rfl, _, rfl, q, _, _, _, rfl, rfl, SqT.of h2, rfl, _, _, rfl, rfl, mul9 b1.bd b2.bd, ?_⟩
    exact ⟨_, _, rfl, Int.mul_ne_zero b1.nz b2.nz, den9 b1.bd b2.bd, fun r H' _ e g => k r H' e g⟩
abbrev s_law_less : Stmt := top 25
abbrev N_law_less : List Str := ["_law_one", "_law_other"]
theorem sc_law_less : FnScope N_law_less ["_law_one", "_law_other"] (defScope s_law_less) := ⟨rfl, rfl, rfl, by decide +kernel, rfl, by decide +kernel, by decide +kernel⟩
def sp_lless : Sp := fun vs H Q _ => ∃ (p q : Addr) (n d n' d' : Int), vs = [.ref p, .ref q] ∧ Pr H p n d ∧ Pr H q n' d' ∧ Opd n d ∧ Opd n' d' ∧ ∀ r H', Ex H H' → Pr H' r (FrM.num (n * d' + -n' * d) (d * d')) (FrM.den (n * d' + -n' * d) (d * d')) → Q (.ref r) H'
theorem ok_less {f : Addr} {fd : FuncData} (F : L2.Fun K "_law_less" "_law_less" s_law_less f fd) (T : Txt K mg CA p0 p1) (c_law_plus : Cal P w K mg base 2 "_law_plus" sp_lplus []) : FnOk P w K mg base CX0 3 f fd ["_law_one", "_law_other"] sp_lless := by
  refine F.ok sc_law_less (fun vs H Q E h => ?_) (fun cdv A outer s H vs Q E hr h => ?_)
  · obtain ⟨p, q, n, d, n', d', rfl, _⟩ := h
    rfl
  · obtain ⟨p, q, n, d, n', d', rfl, h1, h2, b1, b2, k⟩ := h
    refine ⟨_, (pss_one (ps_ret (pe_cal c_law_plus hr (by decide) rfl (pa_cons (pv 0) (pa_cons (pe_tup (pa_cons (pe_un un_neg (pe_ix ix_tup (pv 1) pe_int (fun _ _ => rfl))) (pa_cons (pe_ix ix_tup (pv 1) pe_int (fun _ _ => rfl)) pa_nil))) pa_nil))))), ?_⟩
    refine ⟨_, rfl, _, rfl, q, _, _, _, rfl, rfl, SqT.of h2, rfl, _, rfl, _, rfl, q, _, _, _, rfl, rfl, SqT.of h2, rfl, by show 2 ≤ sizeLine; decide, fun t ht => ?_⟩
    have e : Ex H (upd H t (.tup [.int (-n'), .int d'])) := Evl.Ex.new ht
    exact ⟨p, t, n, d, -n', d', rfl, h1.ext e, upd_same, b1, ⟨by rw [Int.natAbs_neg]; exact b2.bn, b2.bd, b2.nz⟩, fun r H' e' g => k r H' (fun c o h => e' _ _ (e _ _ h)) g⟩
abbrev s_law_pair : Stmt := top 26
abbrev N_law_pair : List Str := ["_law_amount_here"]
theorem sc_law_pair : FnScope N_law_pair ["_law_amount_here"] (defScope s_law_pair) := ⟨rfl, rfl, rfl, by decide +kernel, rfl, by decide +kernel, by decide +kernel⟩
def sp_pair (CA : Addr) : Sp := fun vs H Q _ => ∃ (v : V) (n d : Int), vs = [v] ∧ IsA CA H v n d ∧ ∀ r H', Ex H H' → Pr H' r n d → Q (.ref r) H'
theorem ok_pair {f : Addr} {fd : FuncData} (F : L2.Fun K "_law_pair" "_law_pair" s_law_pair f fd) (T : Txt K mg CA p0 p1) (q_number : PrC P w K mg base CA "number" 1 (sp_pn CA)) (q_under : PrC P w K mg base CA "under" 1 (sp_pd CA)) : FnOk P w K mg base CX0 3 f fd ["_law_amount_here"] (sp_pair CA) := by
  refine F.ok sc_law_pair (fun vs H Q E h => ?_) (fun cdv A outer s H vs Q E hr h => ?_)
  · obtain ⟨v, n, d, rfl, _⟩ := h
    rfl
  · obtain ⟨v, n, d, rfl, hv, k⟩ := h
    refine ⟨_, (pss_one (ps_ret (pe_ifExp (pt_val (pe_callB call_isW (by rfl) T.z_isinstance (by decide +kernel) (pa_cons (pv 0) (pa_cons (pe_bltn (v := .ty "int") (u := .type "int") rfl T.z_int (by decide +kernel) rfl) pa_nil)))) (pe_tup (pa_cons (pv 0) (pa_cons pe_int pa_nil))) (pe_tup (pa_cons (pe_pnum q_number (hr.mono (by decide)) (pv 0)) (pa_cons (pe_pden q_under (hr.mono (by decide)) (pv 0)) pa_nil)))))), ?_⟩
    rcases hv with ⟨rfl, rfl⟩ | hv
    · refine ⟨_, rfl, _, _, _, _, _, rfl, .ty "int", .b (.int n), T.am.kit_int .int, _, rfl, ?_⟩
      refine iteY rfl ?_
      refine ⟨_, rfl, by show 2 ≤ sizeLine; decide, fun t ht => ?_⟩
      exact k t _ (Evl.Ex.new ht) upd_same
    · refine ⟨_, rfl, _, _, _, _, _, rfl, .ty "int", hv.ty T.am, T.am.kit_int .amt, _, rfl, ?_⟩
      refine iteN rfl ?_
      refine ⟨_, rfl, _, _, hv, _, rfl, _, _, hv, by show 2 ≤ sizeLine; decide, fun t ht => ?_⟩
      exact k t _ (Evl.Ex.new ht) upd_same
abbrev s_law_number : Stmt := top 27
abbrev N_law_number : List Str := ["_law_jar_here", "_law_some", "_law_found"]
theorem sc_law_number : FnScope N_law_number ["_law_jar_here"] (defScope s_law_number) := ⟨rfl, rfl, rfl, by decide +kernel, rfl, by decide +kernel, by decide +kernel⟩
def sp_number : Sp := fun vs H Q _ => ∃ (p : Addr) (m : Nat), vs = [.ref p] ∧ Jar H p (m + 3) ∧ ∀ (i : Int) H', i.natAbs ≤ 999999999 → Keep p H H' → Jar H' p m → Q (.int i) H'
theorem ok_number' {f : Addr} {fd : FuncData} (F : L2.Fun K "_law_number" "_law_number" s_law_number f fd) (T : Txt K mg CA p0 p1) (c_law_take : Cal P w K mg base 1 "_law_take" sp_take []) (c_law_of : Cal P w K mg base 2 "_law_of" (sp_of K) []) : FnOk P w K mg base CX0 3 f fd ["_law_jar_here"] sp_number := by
  refine F.ok sc_law_number (fun vs H Q E h => ?_) (fun cdv A outer s H vs Q E hr h => ?_)
  · obtain ⟨p, m, rfl, _⟩ := h
    rfl
  · obtain ⟨p, m, rfl, hj, k⟩ := h
    refine ⟨_, (pss_cons (ps_set (i := 1) sc_law_number.nd rfl (Or.inl rfl) (pe_lst (pa_cons pe_int (pa_cons pe_int (pa_cons pe_int (pa_cons pe_int (pa_cons pe_int (pa_cons pe_int (pa_cons pe_int (pa_cons pe_int (pa_cons pe_int (pa_cons (pe_op op_add pe_int (pe_cal c_law_take hr (by decide) rfl (pa_cons (pv 0) (pa_cons pe_int pa_nil)))) pa_nil))))))))))))
      (pss_cons (ps_set (i := 2) sc_law_number.nd rfl (Or.inl rfl) (pe_cal c_law_of hr (by decide) rfl (pa_cons (pv 0) (pa_cons (pv 1) pa_nil))))
      (pss_one (ps_ret (pe_ifExp (pt_cmpR op_gt (pe_cal c_law_take hr (by decide) rfl (pa_cons (pv 0) (pa_cons pe_int pa_nil))) pe_int (nomark _)) (pv 2) (pe_un un_neg (pv 2))))))), ?_⟩
    refine ⟨_, rfl, p, _, m + 2, rfl, by decide, by decide, hj, fun i1 H1 a1 a2 k1 j1 => ⟨_, _, rfl, rfl, by show 10 ≤ sizeLine; decide, fun l hl => ?_⟩⟩
    have j2 := j1.new (o := .lst [.int 0, .int 1, .int 2, .int 3, .int 6, .int 12, .int 35, .int 510510, .int 999999999, .int (1 + i1)]) hl
    refine ⟨_, rfl, _, rfl, p, l, m + 1, _, rfl, j2, upd_same, j1.ne_none hl, by show 0 < 10; decide, by show 10 < _; decide, fun i x H3 hx k3 j3 => ?_⟩
    have hx' : ∃ y : Int, x = .int y ∧ 0 ≤ y ∧ y ≤ 999999999 := by
      have z := List.mem_of_getElem? hx
      simp only [List.mem_cons, List.mem_nil_iff, or_false] at z
      rcases z with rfl | rfl | rfl | rfl | rfl | rfl | rfl | rfl | rfl | rfl <;> exact ⟨_, rfl, by omega, by omega⟩
    obtain ⟨y, rfl, y1, y2⟩ := hx'
    have kk : Keep p H H3 := (k1.new hl).trans k3
    refine ⟨_, rfl, p, _, m, rfl, by decide, by decide, j3, fun i4 H4 b1 b2 k4 j4 => ⟨_, _, rfl, rfl, _, rfl, ?_⟩⟩
    refine ite2 (fun _ => ?_) (fun _ => ?_)
    · exact ⟨_, rfl, k y H4 (by omega) (kk.trans k4) j4⟩
    · exact ⟨_, rfl, _, rfl, k (-y) H4 (by omega) (kk.trans k4) j4⟩
abbrev s_law_amount : Stmt := top 28
abbrev N_law_amount : List Str := ["_law_jar_here", "_law_is_own", "_law_number_here", "_law_under"]
theorem sc_law_amount : FnScope N_law_amount ["_law_jar_here", "_law_is_own"] (defScope s_law_amount) := ⟨rfl, rfl, rfl, by decide +kernel, rfl, by decide +kernel, by decide +kernel⟩
def sp_amount (CA : Addr) : Sp := fun vs H Q _ => ∃ (p : Addr) (b : Bool) (m : Nat), vs = [.ref p, .bl b] ∧ Jar H p (m + 7) ∧ ∀ (v : V) (n d : Int) H', Keep p H H' → Jar H' p m → IsA CA H' v n d → (b = true → Am CA H' v n d) → FrM.Red n d → n.natAbs ≤ 999999999 → d.natAbs ≤ 999999999 → Q v H'
theorem red_one (n : Int) : FrM.Red n 1 := ⟨by decide, by simp⟩
theorem ok_amount {f : Addr} {fd : FuncData} (F : L2.Fun K "_law_amount" "_law_amount" s_law_amount f fd) (T : Txt K mg CA p0 p1) (c_law_take : Cal P w K mg base 1 "_law_take" sp_take []) (c_law_number : Cal P w K mg base 3 "_law_number" sp_number []) (m_Amount2 : Mak P w K mg base 2 "Amount" CA (sp_init CA) []) :
    FnOk P w K mg base CX0 4 f fd ["_law_jar_here", "_law_is_own"] (sp_amount CA) := by
  refine F.ok sc_law_amount (fun vs H Q E h => ?_) (fun cdv A outer s H vs Q E hr h => ?_)
  · obtain ⟨p, b, m, rfl, _⟩ := h
    rfl
  · obtain ⟨p, b, m, rfl, hj, k⟩ := h
    refine ⟨_, (pss_cons (ps_par (i := 2) (j := 3) rfl sc_law_amount.nd rfl rfl (by decide) rfl rfl (pa_cons (pe_cal c_law_number hr (by decide) rfl (pa_cons (pv 0) pa_nil)) (pa_cons (pe_cal c_law_number hr (by decide) rfl (pa_cons (pv 0) pa_nil)) pa_nil)) rfl)
      (Evl.pss_cut (ps_if (PW.pt (pw_and (pt_not (pt_val (pv 1))) (pw_and1 (pt_cmpR op_eq (pe_cal c_law_take hr (by decide) rfl (pa_cons (pv 0) (pa_cons pe_int pa_nil))) pe_int (nomark _))))) (pss_one (ps_ret (pv 2))) pss_nil)
      (pss_one (ps_ret (pe_mak m_Amount2 hr (by decide) rfl (pa_cons (pv 2) (pa_cons (pe_ifExp (pt_cmpR op_eq (pv 3) pe_int (nomark _)) pe_int (pv 3)) pa_nil))))))), ?_⟩
    refine ⟨_, rfl, p, m + 4, rfl, hj, fun nu H1 n1 k1 j1 => ⟨_, rfl, p, m + 1, rfl, j1, fun un H2 n2 k2 j2 => ⟨_, _, rfl, ?_⟩⟩⟩
    refine ⟨fun σ' H' => σ' = [some (.ref p), some (.bl b), some (.int nu), some (.int un)] ∧ Keep p H H' ∧ Jar H' p m, ?_, ?_⟩
    · cases b with
      | true => exact ⟨_, rfl, _, rfl, iteN rfl ⟨rfl, k1.trans k2, j2.le (by omega)⟩⟩
      | false =>
        refine ⟨_, rfl, _, rfl, iteY rfl ?_⟩
        refine ⟨_, rfl, p, _, m, rfl, by decide, by decide, j2, fun i3 H3 c1 c2 k3 j3 => ⟨rfl, _, rfl, ?_⟩⟩
        refine ite2 (fun _ => ?_) (fun _ => ?_)
        · exact ⟨_, rfl, k _ nu 1 H3 ((k1.trans k2).trans k3) j3 (.inl ⟨rfl, rfl⟩) (fun z => nomatch z) (red_one nu) n1 (by decide)⟩
        · exact ⟨rfl, (k1.trans k2).trans k3, j3⟩
    · rintro σ' H3 ⟨rfl, k3, j3⟩
      refine ⟨_, rfl, _, rfl, rfl, _, rfl, ?_⟩
      have fin : ∀ u : Int, u ≠ 0 → u.natAbs ≤ 999999999 → ∀ x dx, H3 x = none → H3 dx = none → dx ≠ x → sp_init CA [.ref x, .int nu, .int u] (upd (upd H3 dx (.own x)) x (.ins CA dx [])) (fun v H2 => v = .non ∧ Q (.ref x) H2) E0 := fun u h1 h2 x dx hx hdx hne =>
        init_use hx hdx hne h1 (Nat.lt_of_le_of_lt h2 (by decide +kernel)) fun H' e a => ⟨rfl, k _ _ _ H' (k3.trans (.of e)) (j3.ext e) (.inr a) (fun _ => a) (FrM.red h1) (Nat.le_trans (FrM.num_le h1) n1) (Nat.le_trans (FrM.den_le h1) h2)⟩
      by_cases hz : un = 0
      · exact iteY (decide_eq_true (by rw [hz])) (fin 1 (by decide) (by decide))
      · exact iteN (decide_eq_false fun z => hz (V.int.inj z)) ⟨_, rfl, fin un hz n2⟩
/-! ### what is made, shown -/
theorem l1801 {n : Int} (h : n.natAbs < 2 ^ 1801) : n.natAbs.log2 < 1920 := Nat.lt_of_lt_of_le (PySem.Flt.log2_lt_of (by decide) h) (by decide)
theorem pair_fits {n d : Int} (h1 : n.natAbs.log2 < 1920) (h2 : d.natAbs.log2 < 1920) : (tupleText [Str.ofString (toString n), Str.ofString (toString d)]).length ≤ sizeLine := by
  have l1 := int_text_length_le (k := 1920) (by decide) h1
  have l2 := int_text_length_le (k := 1920) (by decide) h2
  have e1 : (Str.ofString (toString n)).length ≤ 1922 := by rw [PySem.ofString_length]; omega
  have e2 : (Str.ofString (toString d)).length ≤ 1922 := by rw [PySem.ofString_length]; omega
  have z : tupleText [Str.ofString (toString n), Str.ofString (toString d)] = Str.ofString "(" ++ (Str.ofString (toString n) ++ Str.ofString ", " ++ Str.ofString (toString d)) ++ Str.ofString ")" := rfl
  rw [z, strLen_append, strLen_append, strLen_append, strLen_append, sizeLine_eq]
  have k1 : (Str.ofString "(").length = 1 := by decide
  have k2 : (Str.ofString ", ").length = 2 := by decide
  have k3 : (Str.ofString ")").length = 1 := by decide
  omega
theorem sh_pair {H : Hp} {t : Addr} {n d : Int} (h : H t = some (.tup [.int n, .int d])) (h1 : n.natAbs.log2 < 1920) (h2 : d.natAbs.log2 < 1920) : Sh K CA H (.ref t) 1 (tupleText [Str.ofString (toString n), Str.ofString (toString d)]) :=
  .tuple (m := 0) (SqT.of h) (.cons (n := 0) (m := 0) (.int n h1) (.cons (n := 0) (m := 0) (.int d h2) .nil))
abbrev s_law_is_made : Stmt := top 29
abbrev N_law_is_made : List Str := ["_law_made", "_law_pair_here"]
theorem sc_law_is_made : FnScope N_law_is_made ["_law_made", "_law_pair_here"] (defScope s_law_is_made) := ⟨rfl, rfl, rfl, by decide +kernel, rfl, by decide +kernel, by decide +kernel⟩
def sp_is_made (CA : Addr) : Sp := fun vs H Q _ => ∃ (v : V) (r : Addr) (n d : Int), vs = [v, .ref r] ∧ Am CA H v n d ∧ Pr H r n d ∧ n.natAbs < 2 ^ 1801 ∧ d.natAbs < 2 ^ 1801 ∧ ∀ H', Ex H H' → Q (.bl true) H'
theorem ok_is_made {f fR : Addr} {fd : FuncData} (F : L2.Fun K "_law_is_made" "_law_is_made" s_law_is_made f fd) (T : Txt K mg CA p0 p1) (R : AmR P w K CA fR) (q_number : PrC P w K mg base CA "number" 1 (sp_pn CA)) (q_under : PrC P w K mg base CA "under" 1 (sp_pd CA)) : FnG P w K mg base CX0 3 f fd ["_law_made", "_law_pair_here"] (sp_is_made CA) := by
  refine okG F sc_law_is_made (fun vs H Q E h => ?_) (fun cdv A outer s H vs Q E hr hgd h => ?_)
  · obtain ⟨v, r, n, d, rfl, _⟩ := h
    rfl
  · obtain ⟨v, r, n, d, rfl, hv, hp, b1, b2, k⟩ := h
    refine ⟨_, (pss_one (ps_ret (pe_and (pe_callB call_isW (by rfl) T.z_isinstance (by decide +kernel) (pa_cons (pv 0) (pa_cons (pe_gc rfl T.g_Amount) pa_nil))) (pe_one (pe_cmpR op_eq (pe_callB (call_reprX R (hr.mono (by decide)) hgd) (by rfl) T.z_repr (by decide +kernel) (pa_cons (pe_tup (pa_cons (pe_pnum q_number (hr.mono (by decide)) (pv 0)) (pa_cons (pe_pden q_under (hr.mono (by decide)) (pv 0)) pa_nil))) pa_nil)) (pe_callB (call_reprX R (hr.mono (by decide)) hgd) (by rfl) T.z_repr (by decide +kernel) (pa_cons (pv 1) pa_nil)) (nomark _)))))), ?_⟩
    refine ⟨_, rfl, _, _, _, _, _, rfl, .own CA, hv.ty T.am, T.am.kit_me .amt, _, rfl, iteY rfl ?_⟩
    refine ⟨_, rfl, _, _, hv, _, rfl, _, _, hv, by show 2 ≤ sizeLine; decide, fun t ht => ?_⟩
    have e : Ex H (upd H t (.tup [.int n, .int d])) := Evl.Ex.new ht
    refine ⟨_, _, _, rfl, sh_pair upd_same (l1801 b1) (l1801 b2), by decide, pair_fits (l1801 b1) (l1801 b2), ?_⟩
    refine ⟨_, rfl, _, _, _, rfl, sh_pair (hp.ext e) (l1801 b1) (l1801 b2), by decide, pair_fits (l1801 b1) (l1801 b2), rfl, ?_⟩
    refine (show Q (.bl (decide _)) _ from ?_)
    rw [decide_eq_true rfl]
    exact k _ e
theorem sh_isA {H : Hp} {v : V} {n d : Int} (x : IsA CA H v n d) (b : Opd n d) : ∃ t, Sh K CA H v 0 t ∧ t.length ≤ 5000 := by
  have h1 : n.natAbs.log2 < 1920 := l1801 (Nat.lt_of_lt_of_le b.bn (Nat.pow_le_pow_right (by decide) (by decide)))
  have h2 : d.natAbs.log2 < 1920 := l1801 (Nat.lt_of_lt_of_le b.bd (Nat.pow_le_pow_right (by decide) (by decide)))
  have l1 := int_text_length_le (k := 1920) (by decide) h1
  have l2 := int_text_length_le (k := 1920) (by decide) h2
  have e1 : (Str.ofString (toString n)).length ≤ 1922 := by rw [PySem.ofString_length]; omega
  have e2 : (Str.ofString (toString d)).length ≤ 1922 := by rw [PySem.ofString_length]; omega
  rcases x with ⟨rfl, _⟩ | x
  · exact ⟨_, .int n h1, by omega⟩
  · refine ⟨_, .am x h1 h2, ?_⟩
    have k1 : (Str.ofString "Amount(").length = 7 := by decide
    have k2 : (Str.ofString ")").length = 1 := by decide
    have k3 : (Str.ofString ", ").length = 2 := by decide
    unfold amT
    split
    · show (Str.ofString "Amount(" ++ Str.ofString (toString n) ++ Str.ofString ")").length ≤ _
      rw [strLen_append, strLen_append]
      omega
    · show (Str.ofString "Amount(" ++ Str.ofString (toString n) ++ Str.ofString ", " ++ Str.ofString (toString d) ++ Str.ofString ")").length ≤ _
      rw [strLen_append, strLen_append, strLen_append, strLen_append]
      omega
theorem fits5 {k : Nat} (h : k ≤ 5000) : k ≤ sizeLine := by rw [sizeLine_eq]; omega
theorem nd_bound {n u : Int} (h : u ≠ 0) (hn : n.natAbs < 2 ^ 1801) (hu : u.natAbs < 2 ^ 1801) : (FrM.num n u).natAbs < 2 ^ 1801 ∧ (FrM.den n u).natAbs < 2 ^ 1801 := ⟨Nat.lt_of_le_of_lt (FrM.num_le h) hn, Nat.lt_of_le_of_lt (FrM.den_le h) hu⟩
theorem mul_b {x y : Int} (hx : x.natAbs < 2 ^ 900) (hy : y.natAbs < 2 ^ 900) : (x * y).natAbs < 2 ^ 1801 := Nat.lt_of_lt_of_le (pow_mul hx hy) (Nat.pow_le_pow_right (by decide) (by decide))
theorem add_b {x y z u : Int} (hx : x.natAbs < 2 ^ 900) (hy : y.natAbs < 2 ^ 900) (hz : z.natAbs < 2 ^ 900) (hu : u.natAbs < 2 ^ 900) : (x * y + z * u).natAbs < 2 ^ 1801 := by
  have h1 := pow_mul hx hy
  have h2 := pow_mul hz hu
  have e : (2 : Nat) ^ 1801 = 2 ^ (900 + 900) + 2 ^ (900 + 900) := by rw [show 1801 = (900 + 900) + 1 from rfl, Nat.pow_succ, Nat.mul_two]
  rw [e]
  exact Nat.lt_of_le_of_lt (Int.natAbs_add_le _ _) (Nat.add_lt_add h1 h2)
abbrev s_law_divides : Stmt := top 30
abbrev N_law_divides : List Str := ["_law_one", "_law_other", "_law_left", "_law_right", "_law_caught", "error"]
theorem sc_law_divides : FnScope N_law_divides ["_law_one", "_law_other"] (defScope s_law_divides) := ⟨rfl, rfl, rfl, by decide +kernel, rfl, by decide +kernel, by decide +kernel⟩
def sp_div (CA : Addr) : Sp := fun vs H Q _ => ∃ (x y : V) (n d n' d' : Int), vs = [x, y] ∧ Two CA H x y n d n' d' ∧ Opd n d ∧ Opd n' d' ∧ ∀ H', Ex H H' → Q (.bl true) H'
theorem ok_divides {f fR : Addr} {fd : FuncData} (F : L2.Fun K "_law_divides" "_law_divides" s_law_divides f fd) (T : Txt K mg CA p0 p1) (R : AmR P w K CA fR) (cc : AmOp P w K mg base CA CQ p0 p1) (x_NoQuotient : Exn P K mg "NoQuotient" CQ CM fM) (hsub : PySem.W.subIn K (.ref CQ) (.ref CQ) = some true)
    (c_law_pair : Cal P w K mg base 3 "_law_pair" (sp_pair CA) []) (c_law_frac : Cal P w K mg base 1 "_law_frac" sp_frac []) (c_law_is_made : CalG P w K mg base 3 "_law_is_made" (sp_is_made CA) []) : FnG P w K mg base CX0 7 f fd ["_law_one", "_law_other"] (sp_div CA) := by
  refine okG F sc_law_divides (fun vs H Q E h => ?_) (fun cdv A outer s H vs Q E hr hgd h => ?_)
  · obtain ⟨x, y, n, d, n', d', rfl, _⟩ := h
    rfl
  · obtain ⟨x, y, n, d, n', d', rfl, t, b1, b2, k⟩ := h
    refine ⟨_, (pss_cons (ps_par3 (i := 2) (j := 3) (l := 4) rfl sc_law_divides.nd rfl rfl rfl (by decide) (by decide) (by decide) rfl rfl rfl (pa_cons (pe_cal c_law_pair hr (by decide) rfl (pa_cons (pv 0) pa_nil)) (pa_cons (pe_cal c_law_pair hr (by decide) rfl (pa_cons (pv 1) pa_nil)) (pa_cons pe_non pa_nil))) rfl)
      (pss_cons (ps_if (pt_cmpR op_ne (pe_ix ix_tup (pv 3) pe_int (fun _ _ => rfl)) pe_int (nomark _)) (pss_one (ps_ret (pe_calG c_law_is_made hr hgd (by decide) rfl (pa_cons (pe_opS (op_quoA cc hr (by decide) (passS LamX.takes0)) (pv 0) (pv 1)) (pa_cons (pe_cal c_law_frac hr (by decide) rfl (pa_cons (pe_op op_mulW (pe_ix ix_tup (pv 2) pe_int (fun _ _ => rfl)) (pe_ix ix_tup (pv 3) pe_int (fun _ _ => rfl))) (pa_cons (pe_op op_mulW (pe_ix ix_tup (pv 2) pe_int (fun _ _ => rfl)) (pe_ix ix_tup (pv 3) pe_int (fun _ _ => rfl))) pa_nil))) pa_nil))))) pss_nil)
      (pss_cons (ps_try_keep (i := 5) rfl rfl rfl sc_law_divides.nd rfl rfl ⟨rfl, by decide, .inl x_NoQuotient.g⟩ LamX.takes0 (fun W pn xe tk _ => (pss_one (ps_expr (pe_opS (op_quoA cc hr (by decide) (passS tk)) (pv 0) (pv 1))))) (fun a pn => (pss_one (ps_set (i := 4) sc_law_divides.nd rfl (Or.inl rfl) (pv 5)))))
      (pss_one (ps_ret (pe_and (pe_cmpR op_notN (pv 4) pe_non (nomark _)) (pe_one (pe_cmpR op_eq (pe_callB (call_reprX R (hr.mono (by decide)) hgd) (by rfl) T.z_repr (by decide +kernel) (pa_cons (pe_ev (pv 4)) pa_nil)) (pe_callB (call_reprX R (hr.mono (by decide)) hgd) (by rfl) T.z_repr (by decide +kernel) (pa_cons (pv 0) pa_nil)) (nomark _))))))))), ?_⟩
    refine ⟨_, rfl, _, _, _, rfl, t.left, fun r1 H1 e1 g1 => ⟨_, rfl, _, _, _, rfl, t.right.ext e1, fun r2 H2 e2 g2 => ⟨_, _, _, rfl, ?_⟩⟩⟩
    have t2 := (t.ext e1).ext e2
    have g1' := g1.ext e2
    refine ⟨_, rfl, r2, _, _, _, rfl, rfl, SqT.of g2, rfl, rfl, _, rfl, ?_⟩
    by_cases hz : n' = 0
    · refine iteN (by rw [hz]; rfl) ?_
      refine ⟨_, rfl, _, rfl, n, d, n', d', t2, b1, b2, fun hz' => absurd hz hz', fun _ dx H3 e3 hdx => ?_⟩
      refine ⟨true, PySem.W.exm_ref x_NoQuotient.me.o.exC x_NoQuotient.k.is.hd x_NoQuotient.me.o.tyC hsub, fun _ a ha => ?_, fun z => nomatch z⟩
      have nad : a ≠ dx := fun z => by
        rw [z, upd_same] at ha
        cases ha
      have e4 : Ex H3 (upd (upd H3 dx (.xd [("value", x)])) a (ErO a (.ref CQ) (some dx))) := fun c o h => Evl.Ex.new ha _ _ (Evl.Ex.new hdx _ _ h)
      refine ⟨_, rfl, ?_⟩
      refine ⟨_, rfl, rfl, _, rfl, iteY rfl ?_⟩
      have er : Er CQ (upd (upd H3 dx (.xd [("value", x)])) a (ErO a (.ref CQ) (some dx))) (.ref a) x := ⟨a, dx, rfl, upd_same, by rw [upd_ne (Ne.symm nad), upd_same]⟩
      obtain ⟨tx, hs, hl⟩ := sh_isA (K := K) ((t2.left.ext e3).ext e4) b1
      refine ⟨_, rfl, CQ, x, er, x_NoQuotient.k, _, _, tx, rfl, hs, by decide, fits5 hl, ?_⟩
      refine ⟨_, rfl, _, _, tx, rfl, hs, by decide, fits5 hl, rfl, ?_⟩
      refine (show Q (.bl (decide _)) _ from ?_)
      rw [decide_eq_true rfl]
      exact k _ fun c o h => e4 _ _ (e3 _ _ (e2 _ _ (e1 _ _ h)))
    · refine iteY (by rw [decide_eq_false fun z => hz (V.int.inj z)]; rfl) ?_
      refine ⟨_, rfl, _, rfl, n, d, n', d', t2, b1, b2, fun _ z H3 e3 a3 => ?_, fun hz' => absurd hz' hz⟩
      have g1'' := g1'.ext e3
      have g2'' := g2.ext e3
      refine ⟨_, rfl, r1, _, _, _, rfl, rfl, SqT.of g1'', rfl, _, rfl, r2, _, _, _, rfl, rfl, SqT.of g2'', rfl, _, _, rfl, rfl, mul9 b1.bn b2.bd, ?_⟩
      refine ⟨_, rfl, r1, _, _, _, rfl, rfl, SqT.of g1'', rfl, _, rfl, r2, _, _, _, rfl, rfl, SqT.of g2'', rfl, _, _, rfl, rfl, mul9 b1.bd b2.bn, ?_⟩
      refine ⟨_, _, rfl, Int.mul_ne_zero b1.nz hz, den9 b1.bd b2.bn, fun r H4 _ e4 g4 => ?_⟩
      have bb := nd_bound (Int.mul_ne_zero b1.nz hz) (mul_b b1.bn b2.bd) (mul_b b1.bd b2.bn)
      exact ⟨z, r, _, _, rfl, a3.ext e4, g4, bb.1, bb.2, fun H5 e5 => k H5 fun c o h => e5 _ _ (e4 _ _ (e3 _ _ (e2 _ _ (e1 _ _ h))))⟩
theorem two_fits {a b : Str} (h1 : a.length ≤ 5000) (h2 : b.length ≤ 5000) : (tupleText [a, b]).length ≤ sizeLine := by
  have z : tupleText [a, b] = Str.ofString "(" ++ (a ++ Str.ofString ", " ++ b) ++ Str.ofString ")" := rfl
  rw [z, strLen_append, strLen_append, strLen_append, strLen_append, sizeLine_eq]
  have k1 : (Str.ofString "(").length = 1 := by decide
  have k2 : (Str.ofString ", ").length = 2 := by decide
  have k3 : (Str.ofString ")").length = 1 := by decide
  omega
theorem sh_two {H : Hp} {t : Addr} {x y : V} {tx ty : Str} (h : H t = some (.tup [x, y])) (h1 : Sh K CA H x 0 tx) (h2 : Sh K CA H y 0 ty) : Sh K CA H (.ref t) 1 (tupleText [tx, ty]) :=
  .tuple (m := 0) (SqT.of h) (.cons (n := 0) (m := 0) h1 (.cons (n := 0) (m := 0) h2 .nil))
abbrev s_law_both_fine : Stmt := top 31
abbrev N_law_both_fine : List Str := ["_law_one", "_law_other", "_law_left", "_law_right", "_law_kept"]
theorem sc_law_both_fine : FnScope N_law_both_fine ["_law_one", "_law_other"] (defScope s_law_both_fine) := ⟨rfl, rfl, rfl, by decide +kernel, rfl, by decide +kernel, by decide +kernel⟩
theorem ok_both_fine {f fR : Addr} {fd : FuncData} (F : L2.Fun K "_law_both_fine" "_law_both_fine" s_law_both_fine f fd) (T : Txt K mg CA p0 p1) (R : AmR P w K CA fR) (cc : AmOp P w K mg base CA CQ p0 p1)
    (c_law_pair : Cal P w K mg base 3 "_law_pair" (sp_pair CA) []) (c_law_plus : Cal P w K mg base 2 "_law_plus" sp_lplus []) (c_law_times : Cal P w K mg base 2 "_law_times" sp_ltimes []) (c_law_less : Cal P w K mg base 3 "_law_less" sp_lless []) (c_law_is_made : CalG P w K mg base 3 "_law_is_made" (sp_is_made CA) [])
    (c_law_divides : CalG P w K mg base 7 "_law_divides" (sp_div CA) []) : FnG P w K mg base CX0 8 f fd ["_law_one", "_law_other"] (sp_div CA) := by
  refine okG F sc_law_both_fine (fun vs H Q E h => ?_) (fun cdv A outer s H vs Q E hr hgd h => ?_)
  · obtain ⟨x, y, n, d, n', d', rfl, _⟩ := h
    rfl
  · obtain ⟨x, y, n, d, n', d', rfl, t, b1, b2, k⟩ := h
    refine ⟨_, (pss_cons (ps_par3 (i := 2) (j := 3) (l := 4) rfl sc_law_both_fine.nd rfl rfl rfl (by decide) (by decide) (by decide) rfl rfl rfl (pa_cons (pe_cal c_law_pair hr (by decide) rfl (pa_cons (pv 0) pa_nil)) (pa_cons (pe_cal c_law_pair hr (by decide) rfl (pa_cons (pv 1) pa_nil)) (pa_cons (pe_callB (call_reprX R (hr.mono (by decide)) hgd) (by rfl) T.z_repr (by decide +kernel) (pa_cons (pe_tup (pa_cons (pv 0) (pa_cons (pv 1) pa_nil))) pa_nil)) pa_nil))) rfl)
      (pss_cons (ps_if (PW.pt (pw_or (pt_not (pt_val (pe_calG c_law_is_made hr hgd (by decide) rfl (pa_cons (pe_op (op_addA cc hr (by decide)) (pv 0) (pv 1)) (pa_cons (pe_cal c_law_plus hr (by decide) rfl (pa_cons (pv 2) (pa_cons (pv 3) pa_nil))) pa_nil))))) (pw_or1 (pt_not (pt_val (pe_calG c_law_is_made hr hgd (by decide) rfl (pa_cons (pe_op (op_mulA cc hr (by decide)) (pv 0) (pv 1)) (pa_cons (pe_cal c_law_times hr (by decide) rfl (pa_cons (pv 2) (pa_cons (pv 3) pa_nil))) pa_nil)))))))) (pss_one (ps_ret pe_bl)) pss_nil)
      (pss_cons (ps_if (PW.pt (pw_or (pt_not (pt_val (pe_calG c_law_is_made hr hgd (by decide) rfl (pa_cons (pe_op (op_subA cc hr (by decide)) (pv 0) (pv 1)) (pa_cons (pe_cal c_law_less hr (by decide) rfl (pa_cons (pv 2) (pa_cons (pv 3) pa_nil))) pa_nil))))) (pw_or1 (pt_not (pt_val (pe_calG c_law_divides hr hgd (by decide) rfl (pa_cons (pv 0) (pa_cons (pv 1) pa_nil)))))))) (pss_one (ps_ret pe_bl)) pss_nil)
      (pss_one (ps_ret (pe_cmpR op_eq (pe_callB (call_reprX R (hr.mono (by decide)) hgd) (by rfl) T.z_repr (by decide +kernel) (pa_cons (pe_tup (pa_cons (pv 0) (pa_cons (pv 1) pa_nil))) pa_nil)) (pv 4) (nomark _))))))), ?_⟩
    refine ⟨_, rfl, _, _, _, rfl, t.left, fun r1 H1 e1 g1 => ⟨_, rfl, _, _, _, rfl, t.right.ext e1, fun r2 H2 e2 g2 => ⟨_, rfl, _, rfl, by show 2 ≤ sizeLine; decide, fun u hu => ?_⟩⟩⟩
    have t2 := (t.ext e1).ext e2
    have e3 : Ex H2 (upd H2 u (.tup [x, y])) := Evl.Ex.new hu
    obtain ⟨tx, sx, lx⟩ := sh_isA (K := K) t2.left b1
    obtain ⟨ty, sy, ly⟩ := sh_isA (K := K) t2.right b2
    refine ⟨_, _, _, rfl, sh_two upd_same (sx.ext e3) (sy.ext e3), by decide, two_fits lx ly, ⟨_, _, _, rfl, ?_⟩⟩
    have t3 := t2.ext e3
    have p1 := (g1.ext e2).ext e3
    have p2 := g2.ext e3
    have z1 := Int.mul_ne_zero b1.nz b2.nz
    -- plus
    refine ⟨_, rfl, _, rfl, n, d, n', d', t3, b1, b2, fun z4 H4 e4 a4 => ⟨_, rfl, _, rfl, r1, r2, n, d, n', d', rfl, p1.ext e4, p2.ext e4, b1, b2, fun r5 H5 e5 g5 => ?_⟩⟩
    have c1 := nd_bound z1 (add_b b1.bn b2.bd b2.bn b1.bd) (mul_b b1.bd b2.bd)
    refine ⟨z4, r5, _, _, rfl, a4.ext e5, g5, c1.1, c1.2, fun H6 e6 => ⟨_, rfl, iteF ?_⟩⟩
    have y6 : Ex (upd H2 u (.tup [x, y])) H6 := fun c o h => e6 _ _ (e5 _ _ (e4 _ _ h))
    -- times
    refine ⟨_, rfl, _, rfl, n, d, n', d', t3.ext y6, b1, b2, fun z7 H7 e7 a7 => ⟨_, rfl, _, rfl, r1, r2, n, d, n', d', rfl, (p1.ext y6).ext e7, (p2.ext y6).ext e7, b1, b2, fun r8 H8 e8 g8 => ?_⟩⟩
    have c2 := nd_bound z1 (mul_b b1.bn b2.bn) (mul_b b1.bd b2.bd)
    refine ⟨z7, r8, _, _, rfl, a7.ext e8, g8, c2.1, c2.2, fun H9 e9 => ⟨_, rfl, iteF ?_⟩⟩
    have y9 : Ex (upd H2 u (.tup [x, y])) H9 := fun c o h => e9 _ _ (e8 _ _ (e7 _ _ (y6 _ _ h)))
    -- less
    refine ⟨_, rfl, _, rfl, n, d, n', d', t3.ext y9, b1, b2, fun z10 H10 e10 a10 => ⟨_, rfl, _, rfl, r1, r2, n, d, n', d', rfl, (p1.ext y9).ext e10, (p2.ext y9).ext e10, b1, b2, fun r11 H11 e11 g11 => ?_⟩⟩
    have c3 := nd_bound z1 (add_b b1.bn b2.bd (by rw [Int.natAbs_neg]; exact b2.bn) b1.bd) (mul_b b1.bd b2.bd)
    refine ⟨z10, r11, _, _, rfl, a10.ext e11, g11, c3.1, c3.2, fun H12 e12 => ⟨_, rfl, iteF ?_⟩⟩
    have y12 : Ex (upd H2 u (.tup [x, y])) H12 := fun c o h => e12 _ _ (e11 _ _ (e10 _ _ (y9 _ _ h)))
    -- divides
    refine ⟨_, rfl, _, rfl, x, y, n, d, n', d', rfl, t3.ext y12, b1, b2, fun H13 e13 => ⟨_, rfl, iteF ?_⟩⟩
    have y13 : Ex (upd H2 u (.tup [x, y])) H13 := fun c o h => e13 _ _ (y12 _ _ h)
    refine ⟨_, rfl, _, rfl, by show 2 ≤ sizeLine; decide, fun q hq => ?_⟩
    have e14 : Ex H13 (upd H13 q (.tup [x, y])) := Evl.Ex.new hq
    have y14 : Ex H2 (upd H13 q (.tup [x, y])) := fun c o h => e14 _ _ (y13 _ _ (e3 _ _ h))
    refine ⟨_, _, _, rfl, sh_two upd_same (sx.ext y14) (sy.ext y14), by decide, two_fits lx ly, ?_⟩
    refine ⟨_, rfl, rfl, ?_⟩
    refine (show Q (.bl (decide _)) _ from ?_)
    rw [decide_eq_true rfl]
    exact k _ fun c o h => y14 _ _ (e2 _ _ (e1 _ _ h))
abbrev s_law_fine : Stmt := top 32
abbrev N_law_fine : List Str := ["_law_jar_here", "_law_lap", "_law_one", "_law_other", "_law_mine"]
theorem sc_law_fine : FnScope N_law_fine ["_law_jar_here"] (defScope s_law_fine) := ⟨rfl, rfl, rfl, by decide +kernel, rfl, by decide +kernel, by decide +kernel⟩
def sp_fine : Sp := fun vs H Q _ => ∃ (p : Addr), vs = [.ref p] ∧ Jar H p 100 ∧ ∀ H', Keep p H H' → Q (.bl true) H'
theorem opd9 {n d : Int} (r : FrM.Red n d) (h1 : n.natAbs ≤ 999999999) (h2 : d.natAbs ≤ 999999999) : Opd n d := ⟨Nat.lt_of_le_of_lt h1 (by decide +kernel), Nat.lt_of_le_of_lt h2 (by decide +kernel), Int.ne_of_gt r.pos⟩
theorem sum9 {a b c d : Int} (h1 : a.natAbs ≤ 999999999) (h2 : b.natAbs ≤ 999999999) (h3 : c.natAbs ≤ 999999999) (h4 : d.natAbs ≤ 999999999) : (a * b + c * d).natAbs < 2 ^ 900 := by
  have x := Nat.mul_le_mul h1 h2
  have y := Nat.mul_le_mul h3 h4
  have z := Int.natAbs_add_le (a * b) (c * d)
  rw [Int.natAbs_mul, Int.natAbs_mul] at z
  exact Nat.lt_of_le_of_lt (show _ ≤ 2000000000000000000 by omega) (by decide +kernel)
theorem prod9 {a b : Int} (h1 : a.natAbs ≤ 999999999) (h2 : b.natAbs ≤ 999999999) : (a * b).natAbs < 2 ^ 900 := by
  have x := Nat.mul_le_mul h1 h2
  rw [Int.natAbs_mul]
  exact Nat.lt_of_le_of_lt (show _ ≤ 2000000000000000000 by omega) (by decide +kernel)
theorem opd_frac {n u : Int} (h : u ≠ 0) (hn : n.natAbs < 2 ^ 900) (hu : u.natAbs < 2 ^ 900) : Opd (FrM.num n u) (FrM.den n u) := ⟨Nat.lt_of_le_of_lt (FrM.num_le h) hn, Nat.lt_of_le_of_lt (FrM.den_le h) hu, Int.ne_of_gt (FrM.den_pos h)⟩
theorem red_neg {n d : Int} (r : FrM.Red n d) : FrM.Red (-n) d := ⟨r.pos, by rw [Int.natAbs_neg]; exact r.cop⟩
theorem red_abs {n d : Int} (r : FrM.Red n d) : FrM.Red (n.natAbs : Int) d := ⟨r.pos, by rw [Int.natAbs_natCast]; exact r.cop⟩
theorem up18 {k : Nat} (h : k < 2 ^ 900) : k < 2 ^ 1801 := Nat.lt_of_lt_of_le h (Nat.pow_le_pow_right (by decide) (by decide))
theorem ok_fine {f : Addr} {fd : FuncData} (F : L2.Fun K "_law_fine" "_law_fine" s_law_fine f fd) (T : Txt K mg CA p0 p1) (cc : AmOp P w K mg base CA CQ p0 p1) (c_law_amount : Cal P w K mg base 4 "_law_amount" (sp_amount CA) []) (c_law_pair : Cal P w K mg base 3 "_law_pair" (sp_pair CA) [])
    (c_law_is_made : CalG P w K mg base 3 "_law_is_made" (sp_is_made CA) []) (c_law_both_fine : CalG P w K mg base 8 "_law_both_fine" (sp_div CA) []) : FnG P w K mg base CX0 9 f fd ["_law_jar_here"] sp_fine := by
  refine okG F sc_law_fine (fun vs H Q E h => ?_) (fun cdv A outer s H vs Q E hr hgd h => ?_)
  · obtain ⟨p, rfl, _⟩ := h
    rfl
  · obtain ⟨p, rfl, hj, k⟩ := h
    refine ⟨_, (pss_cons (ps_for PassesOwn.never rfl (pi_range1 rfl T.z_range (pa_cons pe_int pa_nil)) (pg_name (i := 1) sc_law_fine.nd rfl (Or.inl rfl))
        (pss_cons (ps_par (i := 2) (j := 3) rfl sc_law_fine.nd rfl rfl (by decide) rfl rfl (pa_cons (pe_cal c_law_amount hr (by decide) rfl (pa_cons (pv 0) (pa_cons pe_bl pa_nil))) (pa_cons (pe_cal c_law_amount hr (by decide) rfl (pa_cons (pv 0) (pa_cons pe_bl pa_nil))) pa_nil)) rfl)
      (pss_cons (ps_if (PW.pt (pw_or (pt_not (pt_val (pe_calG c_law_both_fine hr hgd (by decide) rfl (pa_cons (pv 2) (pa_cons (pv 3) pa_nil))))) (pw_or1 (pt_not (pt_val (pe_calG c_law_both_fine hr hgd (by decide) rfl (pa_cons (pv 3) (pa_cons (pv 2) pa_nil)))))))) (pss_one (ps_ret pe_bl)) pss_nil)
      (pss_cons (ps_set (i := 4) sc_law_fine.nd rfl (Or.inl rfl) (pe_cal c_law_pair hr (by decide) rfl (pa_cons (pv 2) pa_nil)))
      (pss_cons (ps_if (PW.pt (pw_or (pt_not (pt_val (pe_calG c_law_is_made hr hgd (by decide) rfl (pa_cons (pe_un (un_negA cc hr (by decide)) (pv 2)) (pa_cons (pe_tup (pa_cons (pe_un un_neg (pe_ix ix_tup (pv 4) pe_int (fun _ _ => rfl))) (pa_cons (pe_ix ix_tup (pv 4) pe_int (fun _ _ => rfl)) pa_nil))) pa_nil))))) (pw_or1 (pt_not (pt_val (pe_calG c_law_is_made hr hgd (by decide) rfl (pa_cons (pe_callB (call_absA cc hr (by decide)) (by rfl) T.z_abs (by decide +kernel) (pa_cons (pv 2) pa_nil)) (pa_cons (pe_tup (pa_cons (pe_callB call_abs (by rfl) T.z_abs (by decide +kernel) (pa_cons (pe_ix ix_tup (pv 4) pe_int (fun _ _ => rfl)) pa_nil)) (pa_cons (pe_ix ix_tup (pv 4) pe_int (fun _ _ => rfl)) pa_nil))) pa_nil)))))))) (pss_one (ps_ret pe_bl)) pss_nil)
      (pss_one (ps_if (pt_not (pt_val (pe_calG c_law_both_fine hr hgd (by decide) rfl (pa_cons (pe_op (op_addA cc hr (by decide)) (pv 2) (pv 3)) (pa_cons (pe_op (op_mulA cc hr (by decide)) (pv 2) (pv 3)) pa_nil))))) (pss_one (ps_ret pe_bl)) pss_nil)))))))
      (pss_one (ps_ret pe_bl))), ?_⟩
    refine ⟨6, rfl, by decide, by decide, for_range (n := 6) (fun i σ H' => ∃ v1 v2 v3 v4, σ = [some (.ref p), v1, v2, v3, v4] ∧ Keep p H H' ∧ Jar H' p (100 - 14 * i)) ⟨_, _, _, _, rfl, Keep.refl _ _, hj⟩ ?_ ?_⟩
    · rintro i σ H1 hi ⟨v1, v2, v3, v4, rfl, k1, j1⟩
      refine ⟨_, rfl, p, true, 100 - 14 * i - 7, rfl, j1.le (by omega), fun x n d H2 k2 j2 _ ax r1 n1 d1 => ⟨_, rfl, p, false, 100 - 14 * (i + 1), rfl, j2.le (by omega), fun y n' d' H3 k3 j3 ay _ r2 n2 d2 => ⟨_, _, rfl, ?_⟩⟩⟩
      have ax3 := (ax rfl).keep k3 j2
      have b1 := opd9 r1 n1 d1
      have b2 := opd9 r2 n2 d2
      have t3 : Two CA H3 x y n d n' d' := .inl ⟨ax3, ay⟩
      have t3' : Two CA H3 y x n' d' n d := .inr ⟨ay, ax3⟩
      refine ⟨_, rfl, _, rfl, x, y, n, d, n', d', rfl, t3, b1, b2, fun H4 e4 => ⟨_, rfl, iteF ?_⟩⟩
      refine ⟨_, rfl, _, rfl, y, x, n', d', n, d, rfl, t3'.ext e4, b2, b1, fun H5 e5 => ⟨_, rfl, iteF ?_⟩⟩
      have y5 : Ex H3 H5 := fun c o h => e5 _ _ (e4 _ _ h)
      refine ⟨_, rfl, x, n, d, rfl, .inr (ax3.ext y5), fun r H6 e6 g6 => ?_⟩
      have y6 : Ex H3 H6 := fun c o h => e6 _ _ (y5 _ _ h)
      refine ⟨_, rfl, n, d, ax3.ext y6, b1, fun z7 H7 e7 a7 => ⟨_, rfl, r, _, _, _, rfl, rfl, SqT.of (g6.ext e7), rfl, _, rfl, _, rfl, r, _, _, _, rfl, rfl, SqT.of (g6.ext e7), rfl, by show 2 ≤ sizeLine; decide, fun t ht => ?_⟩⟩
      rw [(FrM.of_red (red_neg r1)).1, (FrM.of_red (red_neg r1)).2] at a7
      have e8 : Ex H7 (upd H7 t (.tup [.int (-n), .int d])) := Evl.Ex.new ht
      refine ⟨z7, t, -n, d, rfl, a7.ext e8, upd_same, by rw [Int.natAbs_neg]; exact up18 b1.bn, up18 b1.bd, fun H9 e9 => ⟨_, rfl, iteF ?_⟩⟩
      have x9 : Ex H6 H9 := fun c o h => e9 _ _ (e8 _ _ (e7 _ _ h))
      have y9 : Ex H3 H9 := fun c o h => x9 _ _ (y6 _ _ h)
      refine ⟨_, rfl, _, rfl, n, d, ax3.ext y9, b1, fun z10 H10 e10 a10 => ⟨_, rfl, r, _, _, _, rfl, rfl, SqT.of ((g6.ext x9).ext e10), rfl, _, rfl, _, rfl, r, _, _, _, rfl, rfl, SqT.of ((g6.ext x9).ext e10), rfl, by show 2 ≤ sizeLine; decide, fun t' ht' => ?_⟩⟩
      rw [(FrM.of_red (red_abs r1)).1, (FrM.of_red (red_abs r1)).2] at a10
      rw [abs_eq]
      have e11 : Ex H10 (upd H10 t' (.tup [.int (n.natAbs : Int), .int d])) := Evl.Ex.new ht'
      refine ⟨z10, t', (n.natAbs : Int), d, rfl, a10.ext e11, upd_same, by rw [Int.natAbs_natCast]; exact up18 b1.bn, up18 b1.bd, fun H12 e12 => ⟨_, rfl, iteF ?_⟩⟩
      have y12 : Ex H3 H12 := fun c o h => e12 _ _ (e11 _ _ (e10 _ _ (y9 _ _ h)))
      refine ⟨_, rfl, _, rfl, n, d, n', d', t3.ext y12, b1, b2, fun z13 H13 e13 a13 => ⟨_, rfl, _, rfl, n, d, n', d', (t3.ext y12).ext e13, b1, b2, fun z14 H14 e14 a14 => ?_⟩⟩
      have zz := Int.mul_ne_zero b1.nz b2.nz
      refine ⟨z13, z14, _, _, _, _, rfl, .inl ⟨a13.ext e14, .inr a14⟩, opd_frac zz (sum9 n1 d2 n2 d1) (prod9 d1 d2), opd_frac zz (prod9 n1 n2) (prod9 d1 d2), fun H15 e15 => ⟨_, rfl, iteN rfl ?_⟩⟩
      have y15 : Ex H3 H15 := fun c o h => e15 _ _ (e14 _ _ (e13 _ _ (y12 _ _ h)))
      exact ⟨_, _, _, _, rfl, ((k1.trans k2).trans k3).trans (.of y15), j3.ext y15⟩
    · rintro σ H1 ⟨v1, v2, v3, v4, rfl, k1, j1⟩
      exact k H1 k1
abbrev s_law : Stmt := top 33
abbrev N_law : List Str := ["_law_script", "_law_k"]
theorem sc_law : FnScope N_law ["_law_script"] (defScope s_law) := ⟨rfl, rfl, rfl, by decide +kernel, rfl, by decide +kernel, by decide +kernel⟩
def sp_law (K : PySem.W.Frag) : Sp := fun vs H Q _ => ∃ (a : Addr) (ns : List Int), vs = [.ref a] ∧ SqL K H a (ns.map V.int) ∧ ns.length ≤ 63 ∧ Only H ∧ ∀ H', Q (.bl true) H'
theorem ok_law {f : Addr} {fd : FuncData} (F : L2.Fun K "law" "law" s_law f fd) (T : Txt K mg CA p0 p1) (c_law_fine : CalG P w K mg base 9 "_law_fine" sp_fine []) (c_law_jar : Cal P w K mg base 1 "_law_jar" (sp_jar K) []) : FnG P w K mg base CX0 10 f fd ["_law_script"] (sp_law K) := by
  refine okG F sc_law (fun vs H Q E h => ?_) (fun cdv A outer s H vs Q E hr hgd h => ?_)
  · obtain ⟨a, ns, rfl, _⟩ := h
    rfl
  · obtain ⟨a, ns, rfl, hS, hlen, hO, k⟩ := h
    refine ⟨_, (pss_one (ps_ret (pe_callB (cr_all rfl) (by rfl) T.z_all (by decide +kernel) (pa_cons (pe_lc (own := [("_law_k", 1)]) (g := gName 1) (tt := tYes) rfl sc_law.nd (pi_range1 rfl T.z_range (pa_cons (pe_callB (call_max2 rfl) (by rfl) T.z_max (by decide +kernel) (pa_cons pe_int (pa_cons (pe_callB (call_min2 rfl) (by rfl) T.z_min (by decide +kernel) (pa_cons pe_int (pa_cons (pe_callB call_len_seq (by rfl) T.z_len PySem.boot_len (pa_cons (pv 0) pa_nil)) pa_nil))) pa_nil))) pa_nil)) (blkOk_by (N := N_law) (sc := defScope s_law) (by decide +kernel)) (fun _ _ _ _ _ => (pg_name (i := 1) sc_law.nd rfl (Or.inl rfl))) (fun _ _ _ _ _ => pts_nil) (fun _ _ _ _ _ => (pe_calG c_law_fine hr hgd (by decide) rfl (pa_cons (pe_cal c_law_jar hr (by decide) rfl (pa_cons (pv 0) (pa_cons (pv 1) pa_nil))) pa_nil)))) pa_nil)))), ?_⟩
    have hl : ((ns.map V.int).length : Int) ≤ 63 := by rw [List.length_map]; omega
    refine ⟨_, rfl, _, _, rfl, .inl hS, _, _, rfl, _, _, rfl, _, rfl, by split <;> split <;> omega, by split <;> split <;> omega, fun D hD => ?_⟩
    generalize hn : (if (if ((ns.map V.int).length : Int) < 6 then ((ns.map V.int).length : Int) else 6) > 1 then (if ((ns.map V.int).length : Int) < 6 then ((ns.map V.int).length : Int) else 6) else 1) = jn
    have hjn : jn.toNat ≤ 6 := by
      rw [← hn]
      split <;> split <;> omega
    refine lc_range (n := jn.toNat) (fun i H' => H' D = some (.lst (List.replicate i (.bl true))) ∧ Ex H H') ⟨upd_same, Evl.Ex.new hD⟩ ?_ ?_
    · rintro i H1 hi ⟨h1, e1⟩
      refine ⟨rfl, _, rfl, _, rfl, a, _, ns, rfl, Evl.ex_l e1 hS, by omega, by omega, fun p H2 hp e2 j2 => ⟨p, rfl, j2.le (by decide), fun H3 k3 => ?_⟩⟩
      have h3 : H3 D = some (.lst (List.replicate i (.bl true))) := k3 D _ (ne_of_none h1 hp) (e2 _ _ h1)
      refine ⟨_, h3, ?_, ?_, ?_⟩
      · rw [List.length_replicate]
        exact Nat.lt_of_lt_of_le (show i < 100 by omega) (by decide)
      · rw [upd_same, List.replicate_succ']
      · intro b o hb
        have nb : b ≠ p := ne_of_none (e1 _ _ hb) hp
        rw [upd_ne (ne_of_none hb hD)]
        exact k3 b o nb (e2 _ _ (e1 _ _ hb))
    · rintro H1 ⟨h1, e1⟩
      refine ⟨D, List.replicate jn.toNat true, rfl, SqL.of (by rw [h1, List.map_replicate]), ?_⟩
      have e : (List.replicate jn.toNat true).all id = true := by simp
      show Q (.bl ((List.replicate jn.toNat true).all id)) H1
      rw [e]
      exact k H1

end
end Lw

namespace Lw
open PySem PySem.Spec PyProof.Rows L2 SlX WU
open Evl (Ex)
theorem all_mk {l : PySem.W.OpenLaw} {w : World} {K : PySem.W.Frag} {h : Heap} {mg : Str → Option Value} {fa : Addr} (X : K.In h) (G : h.Ns mainGlobals mg) (hfa : mg "law" = some (.ref fa))
    {f_is_integer : Addr} {od_is_integer an_is_integer : Option Addr} {sl_is_integer : Array (Option Value)} {oc_is_integer kV_is_integer dc_is_integer pm_is_integer cd_is_integer ct_is_integer : Value}
    {f_shared_by : Addr} {od_shared_by an_shared_by : Option Addr} {sl_shared_by : Array (Option Value)} {oc_shared_by kV_shared_by dc_shared_by pm_shared_by cd_shared_by ct_shared_by : Value}
    {f_Amount_init : Addr} {od_Amount_init an_Amount_init : Option Addr} {sl_Amount_init : Array (Option Value)} {oc_Amount_init kV_Amount_init dc_Amount_init pm_Amount_init cd_Amount_init ct_Amount_init : Value}
    {td_Amount_init : Addr} {oct_Amount_init : Value} {odt_Amount_init : Option Addr} {tk_Amount_init n_Amount_init : Nat} {slt_Amount_init : Array (Option Value)}
    {f_is_amount : Addr} {od_is_amount an_is_amount : Option Addr} {sl_is_amount : Array (Option Value)} {oc_is_amount kV_is_amount dc_is_amount pm_is_amount cd_is_amount ct_is_amount : Value}
    {f_amount_of : Addr} {od_amount_of an_amount_of : Option Addr} {sl_amount_of : Array (Option Value)} {oc_amount_of kV_amount_of dc_amount_of pm_amount_of cd_amount_of ct_amount_of : Value}
    {f_sum_of_both : Addr} {od_sum_of_both an_sum_of_both : Option Addr} {sl_sum_of_both : Array (Option Value)} {oc_sum_of_both kV_sum_of_both dc_sum_of_both pm_sum_of_both cd_sum_of_both ct_sum_of_both : Value}
    {f_product : Addr} {od_product an_product : Option Addr} {sl_product : Array (Option Value)} {oc_product kV_product dc_product pm_product cd_product ct_product : Value}
    {f_quotient : Addr} {od_quotient an_quotient : Option Addr} {sl_quotient : Array (Option Value)} {oc_quotient kV_quotient dc_quotient pm_quotient cd_quotient ct_quotient : Value}
    {f_Amount_add : Addr} {od_Amount_add an_Amount_add : Option Addr} {sl_Amount_add : Array (Option Value)} {oc_Amount_add kV_Amount_add dc_Amount_add pm_Amount_add cd_Amount_add ct_Amount_add : Value}
    {f_Amount_radd : Addr} {od_Amount_radd an_Amount_radd : Option Addr} {sl_Amount_radd : Array (Option Value)} {oc_Amount_radd kV_Amount_radd dc_Amount_radd pm_Amount_radd cd_Amount_radd ct_Amount_radd : Value}
    {f_Amount_sub : Addr} {od_Amount_sub an_Amount_sub : Option Addr} {sl_Amount_sub : Array (Option Value)} {oc_Amount_sub kV_Amount_sub dc_Amount_sub pm_Amount_sub cd_Amount_sub ct_Amount_sub : Value}
    {f_Amount_rsub : Addr} {od_Amount_rsub an_Amount_rsub : Option Addr} {sl_Amount_rsub : Array (Option Value)} {oc_Amount_rsub kV_Amount_rsub dc_Amount_rsub pm_Amount_rsub cd_Amount_rsub ct_Amount_rsub : Value}
    {f_Amount_mul : Addr} {od_Amount_mul an_Amount_mul : Option Addr} {sl_Amount_mul : Array (Option Value)} {oc_Amount_mul kV_Amount_mul dc_Amount_mul pm_Amount_mul cd_Amount_mul ct_Amount_mul : Value}
    {f_Amount_rmul : Addr} {od_Amount_rmul an_Amount_rmul : Option Addr} {sl_Amount_rmul : Array (Option Value)} {oc_Amount_rmul kV_Amount_rmul dc_Amount_rmul pm_Amount_rmul cd_Amount_rmul ct_Amount_rmul : Value}
    {f_Amount_floordiv : Addr} {od_Amount_floordiv an_Amount_floordiv : Option Addr} {sl_Amount_floordiv : Array (Option Value)} {oc_Amount_floordiv kV_Amount_floordiv dc_Amount_floordiv pm_Amount_floordiv cd_Amount_floordiv ct_Amount_floordiv : Value}
    {f_Amount_rfloordiv : Addr} {od_Amount_rfloordiv an_Amount_rfloordiv : Option Addr} {sl_Amount_rfloordiv : Array (Option Value)} {oc_Amount_rfloordiv kV_Amount_rfloordiv dc_Amount_rfloordiv pm_Amount_rfloordiv cd_Amount_rfloordiv ct_Amount_rfloordiv : Value}
    {f_Amount_neg : Addr} {od_Amount_neg an_Amount_neg : Option Addr} {sl_Amount_neg : Array (Option Value)} {oc_Amount_neg kV_Amount_neg dc_Amount_neg pm_Amount_neg cd_Amount_neg ct_Amount_neg : Value}
    {f_Amount_abs : Addr} {od_Amount_abs an_Amount_abs : Option Addr} {sl_Amount_abs : Array (Option Value)} {oc_Amount_abs kV_Amount_abs dc_Amount_abs pm_Amount_abs cd_Amount_abs ct_Amount_abs : Value}
    {f_Amount_repr : Addr} {od_Amount_repr an_Amount_repr : Option Addr} {sl_Amount_repr : Array (Option Value)} {oc_Amount_repr kV_Amount_repr dc_Amount_repr pm_Amount_repr cd_Amount_repr ct_Amount_repr : Value}
    {f_Amount_number : Addr} {od_Amount_number an_Amount_number : Option Addr} {sl_Amount_number : Array (Option Value)} {oc_Amount_number kV_Amount_number dc_Amount_number pm_Amount_number cd_Amount_number ct_Amount_number : Value}
    {f_Amount_under : Addr} {od_Amount_under an_Amount_under : Option Addr} {sl_Amount_under : Array (Option Value)} {oc_Amount_under kV_Amount_under dc_Amount_under pm_Amount_under cd_Amount_under ct_Amount_under : Value}
    {f_law_jar : Addr} {od_law_jar an_law_jar : Option Addr} {sl_law_jar : Array (Option Value)} {oc_law_jar kV_law_jar dc_law_jar pm_law_jar cd_law_jar ct_law_jar : Value}
    {f_law_take : Addr} {od_law_take an_law_take : Option Addr} {sl_law_take : Array (Option Value)} {oc_law_take kV_law_take dc_law_take pm_law_take cd_law_take ct_law_take : Value}
    {f_law_of : Addr} {od_law_of an_law_of : Option Addr} {sl_law_of : Array (Option Value)} {oc_law_of kV_law_of dc_law_of pm_law_of cd_law_of ct_law_of : Value}
    {f_law_frac : Addr} {od_law_frac an_law_frac : Option Addr} {sl_law_frac : Array (Option Value)} {oc_law_frac kV_law_frac dc_law_frac pm_law_frac cd_law_frac ct_law_frac : Value}
    {f_law_plus : Addr} {od_law_plus an_law_plus : Option Addr} {sl_law_plus : Array (Option Value)} {oc_law_plus kV_law_plus dc_law_plus pm_law_plus cd_law_plus ct_law_plus : Value}
    {f_law_times : Addr} {od_law_times an_law_times : Option Addr} {sl_law_times : Array (Option Value)} {oc_law_times kV_law_times dc_law_times pm_law_times cd_law_times ct_law_times : Value}
    {f_law_less : Addr} {od_law_less an_law_less : Option Addr} {sl_law_less : Array (Option Value)} {oc_law_less kV_law_less dc_law_less pm_law_less cd_law_less ct_law_less : Value}
    {f_law_pair : Addr} {od_law_pair an_law_pair : Option Addr} {sl_law_pair : Array (Option Value)} {oc_law_pair kV_law_pair dc_law_pair pm_law_pair cd_law_pair ct_law_pair : Value}
    {f_law_number : Addr} {od_law_number an_law_number : Option Addr} {sl_law_number : Array (Option Value)} {oc_law_number kV_law_number dc_law_number pm_law_number cd_law_number ct_law_number : Value}
    {f_law_amount : Addr} {od_law_amount an_law_amount : Option Addr} {sl_law_amount : Array (Option Value)} {oc_law_amount kV_law_amount dc_law_amount pm_law_amount cd_law_amount ct_law_amount : Value}
    {f_law_is_made : Addr} {od_law_is_made an_law_is_made : Option Addr} {sl_law_is_made : Array (Option Value)} {oc_law_is_made kV_law_is_made dc_law_is_made pm_law_is_made cd_law_is_made ct_law_is_made : Value}
    {f_law_divides : Addr} {od_law_divides an_law_divides : Option Addr} {sl_law_divides : Array (Option Value)} {oc_law_divides kV_law_divides dc_law_divides pm_law_divides cd_law_divides ct_law_divides : Value}
    {f_law_both_fine : Addr} {od_law_both_fine an_law_both_fine : Option Addr} {sl_law_both_fine : Array (Option Value)} {oc_law_both_fine kV_law_both_fine dc_law_both_fine pm_law_both_fine cd_law_both_fine ct_law_both_fine : Value}
    {f_law_fine : Addr} {od_law_fine an_law_fine : Option Addr} {sl_law_fine : Array (Option Value)} {oc_law_fine kV_law_fine dc_law_fine pm_law_fine cd_law_fine ct_law_fine : Value}
    {f_law : Addr} {od_law an_law : Option Addr} {sl_law : Array (Option Value)} {oc_law kV_law dc_law pm_law cd_law ct_law : Value}
    {CA p0 p1 : Addr}
    {fM CM ccM cdM : Addr} {cla_M cl_M oc_M kV_M dc_M pm_M ct_M : Value} {an_M od_M cdd_M cld_M : Option Addr} {osl_M ccs_M csl_M : Array (Option Value)} {vs_M : Array Value} {file_M : Str} {tf_M : Tok} {cdD_M : ClassData}
    {nm_MeterError q_MeterError : Str} {N_MeterError : Addr} {bs_MeterError : List Value} {sn_MeterError : List Str} {sub_MeterError : List Value} {ab_MeterError : Bool} {col_MeterError : Option Bool} {dd_MeterError : Option Addr} {m0_MeterError m1_MeterError m2_MeterError m3_MeterError m5_MeterError : Option Value}
    {C_NoQuotient : Addr} {nm_NoQuotient q_NoQuotient : Str} {N_NoQuotient : Addr} {bs_NoQuotient : List Value} {sn_NoQuotient : List Str} {sub_NoQuotient : List Value} {ab_NoQuotient : Bool} {col_NoQuotient : Option Bool} {dd_NoQuotient : Option Addr} {m0_NoQuotient m1_NoQuotient m2_NoQuotient m3_NoQuotient m5_NoQuotient : Option Value}
    {pp_number : Addr} {rs_number : List Value}
    {pp_under : Addr} {rs_under : List Value}
    (aC : PySem.W.nsIn K mainGlobals "Amount" = some (some (.ref CA)))
    (pg : PySem.W.plainGet K CA Str.empty = true)
    (ic : PySem.W.isClsIn K CA = true)
    (po : PySem.W.plainOver K CA = true)
    (sa : PySem.W.findIn K (.ref CA) "__setattr__" = some (some (.builtin "object.__setattr__")))
    (mk : PySem.W.makesIn K CA = true)
    (kc : PySem.W.keepIn K (.ref CA) = true)
    (ca : PySem.W.findIn K (.ref CA) "__class__" = some (some (.builtin "object.__class__")))
    (cn : PySem.W.specialIn K (.builtin "object.__class__") "__get__" = some (some (.builtin "getset_descriptor.__get__")))
    (ct : PySem.W.takesIn K (.builtin "object.__class__") = some true)
    (cm : PySem.W.mroIn K CA (.type "object") = some true)
    (ne : PySem.W.findIn K (.ref CA) "__ne__" = some (some (.builtin "object.__ne__")))
    (m_int : PySem.W.mroIn K CA (.type "int") = some false)
    (m_bool : PySem.W.mroIn K CA (.type "bool") = some false)
    (m_NoneType : PySem.W.mroIn K CA (.type "NoneType") = some false)
    (m_str : PySem.W.mroIn K CA (.type "str") = some false)
    (m_list : PySem.W.mroIn K CA (.type "list") = some false)
    (m_tuple : PySem.W.mroIn K CA (.type "tuple") = some false)
    (m_dict : PySem.W.mroIn K CA (.type "dict") = some false)
    (s0_at : PySem.W.findIn K (.ref CA) "own_number" = some (some (.ref p0)))
    (s0_get : PySem.W.specialIn K (.ref p0) "__get__" = some (some (.builtin "member_descriptor.__get__")))
    (s0_tk : PySem.W.takesIn K (.ref p0) = some true)
    (s0_ty : PySem.W.typeIn K (.ref p0) = some (.type "member_descriptor"))
    (s0_ix : PySem.W.slotIn K p0 CA = some 0)
    (s1_at : PySem.W.findIn K (.ref CA) "own_under" = some (some (.ref p1)))
    (s1_get : PySem.W.specialIn K (.ref p1) "__get__" = some (some (.builtin "member_descriptor.__get__")))
    (s1_tk : PySem.W.takesIn K (.ref p1) = some true)
    (s1_ty : PySem.W.typeIn K (.ref p1) = some (.type "member_descriptor"))
    (s1_ix : PySem.W.slotIn K p1 CA = some 1)
    (ty : PySem.W.typeIn K (.ref CA) = some (.type "type"))
    (a_is_integer : PySem.W.nsIn K mainGlobals "is_integer" = some (some (.ref f_is_integer)))
    (l_is_integer : K.lookup f_is_integer = some ⟨oc_is_integer, od_is_integer, .func (PySem.W.fnOf "is_integer" "is_integer" (defArgs s_is_integer) (defBody s_is_integer) (defScope s_is_integer) .none kV_is_integer dc_is_integer pm_is_integer an_is_integer cd_is_integer ct_is_integer), sl_is_integer⟩) (c_is_integer : PySem.W.codeIn K cd_is_integer "is_integer" = true) (k_is_integer : PySem.W.keepIn K (.ref f_is_integer) = true)
    (a_shared_by : PySem.W.nsIn K mainGlobals "shared_by" = some (some (.ref f_shared_by)))
    (l_shared_by : K.lookup f_shared_by = some ⟨oc_shared_by, od_shared_by, .func (PySem.W.fnOf "shared_by" "shared_by" (defArgs s_shared_by) (defBody s_shared_by) (defScope s_shared_by) .none kV_shared_by dc_shared_by pm_shared_by an_shared_by cd_shared_by ct_shared_by), sl_shared_by⟩) (c_shared_by : PySem.W.codeIn K cd_shared_by "shared_by" = true) (k_shared_by : PySem.W.keepIn K (.ref f_shared_by) = true)
    (a_Amount_init : PySem.W.findIn K (.ref CA) "__init__" = some (some (.ref f_Amount_init))) (i_Amount_init : PySem.W.isFn K (.ref f_Amount_init) = true)
    (l_Amount_init : K.lookup f_Amount_init = some ⟨oc_Amount_init, od_Amount_init, .func (PySem.W.fnOf "__init__" "Amount.__init__" (defArgs s_Amount_init) (defBody s_Amount_init) (defScope s_Amount_init) (.ref td_Amount_init) kV_Amount_init dc_Amount_init pm_Amount_init an_Amount_init cd_Amount_init ct_Amount_init), sl_Amount_init⟩) (c_Amount_init : PySem.W.codeIn K cd_Amount_init "Amount.__init__" = true) (k_Amount_init : PySem.W.keepIn K (.ref f_Amount_init) = true)
    (t_Amount_init : K.lookup td_Amount_init = some ⟨oct_Amount_init, odt_Amount_init, .seq #[.int 1 tk_Amount_init] n_Amount_init, slt_Amount_init⟩)
    (a_is_amount : PySem.W.nsIn K mainGlobals "is_amount" = some (some (.ref f_is_amount)))
    (l_is_amount : K.lookup f_is_amount = some ⟨oc_is_amount, od_is_amount, .func (PySem.W.fnOf "is_amount" "is_amount" (defArgs s_is_amount) (defBody s_is_amount) (defScope s_is_amount) .none kV_is_amount dc_is_amount pm_is_amount an_is_amount cd_is_amount ct_is_amount), sl_is_amount⟩) (c_is_amount : PySem.W.codeIn K cd_is_amount "is_amount" = true) (k_is_amount : PySem.W.keepIn K (.ref f_is_amount) = true)
    (a_amount_of : PySem.W.nsIn K mainGlobals "amount_of" = some (some (.ref f_amount_of)))
    (l_amount_of : K.lookup f_amount_of = some ⟨oc_amount_of, od_amount_of, .func (PySem.W.fnOf "amount_of" "amount_of" (defArgs s_amount_of) (defBody s_amount_of) (defScope s_amount_of) .none kV_amount_of dc_amount_of pm_amount_of an_amount_of cd_amount_of ct_amount_of), sl_amount_of⟩) (c_amount_of : PySem.W.codeIn K cd_amount_of "amount_of" = true) (k_amount_of : PySem.W.keepIn K (.ref f_amount_of) = true)
    (a_sum_of_both : PySem.W.nsIn K mainGlobals "sum_of_both" = some (some (.ref f_sum_of_both)))
    (l_sum_of_both : K.lookup f_sum_of_both = some ⟨oc_sum_of_both, od_sum_of_both, .func (PySem.W.fnOf "sum_of_both" "sum_of_both" (defArgs s_sum_of_both) (defBody s_sum_of_both) (defScope s_sum_of_both) .none kV_sum_of_both dc_sum_of_both pm_sum_of_both an_sum_of_both cd_sum_of_both ct_sum_of_both), sl_sum_of_both⟩) (c_sum_of_both : PySem.W.codeIn K cd_sum_of_both "sum_of_both" = true) (k_sum_of_both : PySem.W.keepIn K (.ref f_sum_of_both) = true)
    (a_product : PySem.W.nsIn K mainGlobals "product" = some (some (.ref f_product)))
    (l_product : K.lookup f_product = some ⟨oc_product, od_product, .func (PySem.W.fnOf "product" "product" (defArgs s_product) (defBody s_product) (defScope s_product) .none kV_product dc_product pm_product an_product cd_product ct_product), sl_product⟩) (c_product : PySem.W.codeIn K cd_product "product" = true) (k_product : PySem.W.keepIn K (.ref f_product) = true)
    (a_quotient : PySem.W.nsIn K mainGlobals "quotient" = some (some (.ref f_quotient)))
    (l_quotient : K.lookup f_quotient = some ⟨oc_quotient, od_quotient, .func (PySem.W.fnOf "quotient" "quotient" (defArgs s_quotient) (defBody s_quotient) (defScope s_quotient) .none kV_quotient dc_quotient pm_quotient an_quotient cd_quotient ct_quotient), sl_quotient⟩) (c_quotient : PySem.W.codeIn K cd_quotient "quotient" = true) (k_quotient : PySem.W.keepIn K (.ref f_quotient) = true)
    (a_Amount_add : PySem.W.findIn K (.ref CA) "__add__" = some (some (.ref f_Amount_add))) (i_Amount_add : PySem.W.isFn K (.ref f_Amount_add) = true)
    (l_Amount_add : K.lookup f_Amount_add = some ⟨oc_Amount_add, od_Amount_add, .func (PySem.W.fnOf "__add__" "Amount.__add__" (defArgs s_Amount_add) (defBody s_Amount_add) (defScope s_Amount_add) .none kV_Amount_add dc_Amount_add pm_Amount_add an_Amount_add cd_Amount_add ct_Amount_add), sl_Amount_add⟩) (c_Amount_add : PySem.W.codeIn K cd_Amount_add "Amount.__add__" = true) (k_Amount_add : PySem.W.keepIn K (.ref f_Amount_add) = true)
    (a_Amount_radd : PySem.W.findIn K (.ref CA) "__radd__" = some (some (.ref f_Amount_radd))) (i_Amount_radd : PySem.W.isFn K (.ref f_Amount_radd) = true)
    (l_Amount_radd : K.lookup f_Amount_radd = some ⟨oc_Amount_radd, od_Amount_radd, .func (PySem.W.fnOf "__radd__" "Amount.__radd__" (defArgs s_Amount_radd) (defBody s_Amount_radd) (defScope s_Amount_radd) .none kV_Amount_radd dc_Amount_radd pm_Amount_radd an_Amount_radd cd_Amount_radd ct_Amount_radd), sl_Amount_radd⟩) (c_Amount_radd : PySem.W.codeIn K cd_Amount_radd "Amount.__radd__" = true) (k_Amount_radd : PySem.W.keepIn K (.ref f_Amount_radd) = true)
    (a_Amount_sub : PySem.W.findIn K (.ref CA) "__sub__" = some (some (.ref f_Amount_sub))) (i_Amount_sub : PySem.W.isFn K (.ref f_Amount_sub) = true)
    (l_Amount_sub : K.lookup f_Amount_sub = some ⟨oc_Amount_sub, od_Amount_sub, .func (PySem.W.fnOf "__sub__" "Amount.__sub__" (defArgs s_Amount_sub) (defBody s_Amount_sub) (defScope s_Amount_sub) .none kV_Amount_sub dc_Amount_sub pm_Amount_sub an_Amount_sub cd_Amount_sub ct_Amount_sub), sl_Amount_sub⟩) (c_Amount_sub : PySem.W.codeIn K cd_Amount_sub "Amount.__sub__" = true) (k_Amount_sub : PySem.W.keepIn K (.ref f_Amount_sub) = true)
    (a_Amount_rsub : PySem.W.findIn K (.ref CA) "__rsub__" = some (some (.ref f_Amount_rsub))) (i_Amount_rsub : PySem.W.isFn K (.ref f_Amount_rsub) = true)
    (l_Amount_rsub : K.lookup f_Amount_rsub = some ⟨oc_Amount_rsub, od_Amount_rsub, .func (PySem.W.fnOf "__rsub__" "Amount.__rsub__" (defArgs s_Amount_rsub) (defBody s_Amount_rsub) (defScope s_Amount_rsub) .none kV_Amount_rsub dc_Amount_rsub pm_Amount_rsub an_Amount_rsub cd_Amount_rsub ct_Amount_rsub), sl_Amount_rsub⟩) (c_Amount_rsub : PySem.W.codeIn K cd_Amount_rsub "Amount.__rsub__" = true) (k_Amount_rsub : PySem.W.keepIn K (.ref f_Amount_rsub) = true)
    (a_Amount_mul : PySem.W.findIn K (.ref CA) "__mul__" = some (some (.ref f_Amount_mul))) (i_Amount_mul : PySem.W.isFn K (.ref f_Amount_mul) = true)
    (l_Amount_mul : K.lookup f_Amount_mul = some ⟨oc_Amount_mul, od_Amount_mul, .func (PySem.W.fnOf "__mul__" "Amount.__mul__" (defArgs s_Amount_mul) (defBody s_Amount_mul) (defScope s_Amount_mul) .none kV_Amount_mul dc_Amount_mul pm_Amount_mul an_Amount_mul cd_Amount_mul ct_Amount_mul), sl_Amount_mul⟩) (c_Amount_mul : PySem.W.codeIn K cd_Amount_mul "Amount.__mul__" = true) (k_Amount_mul : PySem.W.keepIn K (.ref f_Amount_mul) = true)
    (a_Amount_rmul : PySem.W.findIn K (.ref CA) "__rmul__" = some (some (.ref f_Amount_rmul))) (i_Amount_rmul : PySem.W.isFn K (.ref f_Amount_rmul) = true)
    (l_Amount_rmul : K.lookup f_Amount_rmul = some ⟨oc_Amount_rmul, od_Amount_rmul, .func (PySem.W.fnOf "__rmul__" "Amount.__rmul__" (defArgs s_Amount_rmul) (defBody s_Amount_rmul) (defScope s_Amount_rmul) .none kV_Amount_rmul dc_Amount_rmul pm_Amount_rmul an_Amount_rmul cd_Amount_rmul ct_Amount_rmul), sl_Amount_rmul⟩) (c_Amount_rmul : PySem.W.codeIn K cd_Amount_rmul "Amount.__rmul__" = true) (k_Amount_rmul : PySem.W.keepIn K (.ref f_Amount_rmul) = true)
    (a_Amount_floordiv : PySem.W.findIn K (.ref CA) "__floordiv__" = some (some (.ref f_Amount_floordiv))) (i_Amount_floordiv : PySem.W.isFn K (.ref f_Amount_floordiv) = true)
    (l_Amount_floordiv : K.lookup f_Amount_floordiv = some ⟨oc_Amount_floordiv, od_Amount_floordiv, .func (PySem.W.fnOf "__floordiv__" "Amount.__floordiv__" (defArgs s_Amount_floordiv) (defBody s_Amount_floordiv) (defScope s_Amount_floordiv) .none kV_Amount_floordiv dc_Amount_floordiv pm_Amount_floordiv an_Amount_floordiv cd_Amount_floordiv ct_Amount_floordiv), sl_Amount_floordiv⟩) (c_Amount_floordiv : PySem.W.codeIn K cd_Amount_floordiv "Amount.__floordiv__" = true) (k_Amount_floordiv : PySem.W.keepIn K (.ref f_Amount_floordiv) = true)
    (a_Amount_rfloordiv : PySem.W.findIn K (.ref CA) "__rfloordiv__" = some (some (.ref f_Amount_rfloordiv))) (i_Amount_rfloordiv : PySem.W.isFn K (.ref f_Amount_rfloordiv) = true)
    (l_Amount_rfloordiv : K.lookup f_Amount_rfloordiv = some ⟨oc_Amount_rfloordiv, od_Amount_rfloordiv, .func (PySem.W.fnOf "__rfloordiv__" "Amount.__rfloordiv__" (defArgs s_Amount_rfloordiv) (defBody s_Amount_rfloordiv) (defScope s_Amount_rfloordiv) .none kV_Amount_rfloordiv dc_Amount_rfloordiv pm_Amount_rfloordiv an_Amount_rfloordiv cd_Amount_rfloordiv ct_Amount_rfloordiv), sl_Amount_rfloordiv⟩) (c_Amount_rfloordiv : PySem.W.codeIn K cd_Amount_rfloordiv "Amount.__rfloordiv__" = true) (k_Amount_rfloordiv : PySem.W.keepIn K (.ref f_Amount_rfloordiv) = true)
    (a_Amount_neg : PySem.W.findIn K (.ref CA) "__neg__" = some (some (.ref f_Amount_neg))) (i_Amount_neg : PySem.W.isFn K (.ref f_Amount_neg) = true)
    (l_Amount_neg : K.lookup f_Amount_neg = some ⟨oc_Amount_neg, od_Amount_neg, .func (PySem.W.fnOf "__neg__" "Amount.__neg__" (defArgs s_Amount_neg) (defBody s_Amount_neg) (defScope s_Amount_neg) .none kV_Amount_neg dc_Amount_neg pm_Amount_neg an_Amount_neg cd_Amount_neg ct_Amount_neg), sl_Amount_neg⟩) (c_Amount_neg : PySem.W.codeIn K cd_Amount_neg "Amount.__neg__" = true) (k_Amount_neg : PySem.W.keepIn K (.ref f_Amount_neg) = true)
    (a_Amount_abs : PySem.W.findIn K (.ref CA) "__abs__" = some (some (.ref f_Amount_abs))) (i_Amount_abs : PySem.W.isFn K (.ref f_Amount_abs) = true)
    (l_Amount_abs : K.lookup f_Amount_abs = some ⟨oc_Amount_abs, od_Amount_abs, .func (PySem.W.fnOf "__abs__" "Amount.__abs__" (defArgs s_Amount_abs) (defBody s_Amount_abs) (defScope s_Amount_abs) .none kV_Amount_abs dc_Amount_abs pm_Amount_abs an_Amount_abs cd_Amount_abs ct_Amount_abs), sl_Amount_abs⟩) (c_Amount_abs : PySem.W.codeIn K cd_Amount_abs "Amount.__abs__" = true) (k_Amount_abs : PySem.W.keepIn K (.ref f_Amount_abs) = true)
    (a_Amount_repr : PySem.W.findIn K (.ref CA) "__repr__" = some (some (.ref f_Amount_repr))) (i_Amount_repr : PySem.W.isFn K (.ref f_Amount_repr) = true)
    (l_Amount_repr : K.lookup f_Amount_repr = some ⟨oc_Amount_repr, od_Amount_repr, .func (PySem.W.fnOf "__repr__" "Amount.__repr__" (defArgs s_Amount_repr) (defBody s_Amount_repr) (defScope s_Amount_repr) .none kV_Amount_repr dc_Amount_repr pm_Amount_repr an_Amount_repr cd_Amount_repr ct_Amount_repr), sl_Amount_repr⟩) (c_Amount_repr : PySem.W.codeIn K cd_Amount_repr "Amount.__repr__" = true) (k_Amount_repr : PySem.W.keepIn K (.ref f_Amount_repr) = true)
    (l_Amount_number : K.lookup f_Amount_number = some ⟨oc_Amount_number, od_Amount_number, .func (PySem.W.fnOf "number" "Amount.number" (defArgs s_Amount_number) (defBody s_Amount_number) (defScope s_Amount_number) .none kV_Amount_number dc_Amount_number pm_Amount_number an_Amount_number cd_Amount_number ct_Amount_number), sl_Amount_number⟩) (c_Amount_number : PySem.W.codeIn K cd_Amount_number "Amount.number" = true) (k_Amount_number : PySem.W.keepIn K (.ref f_Amount_number) = true)
    (l_Amount_under : K.lookup f_Amount_under = some ⟨oc_Amount_under, od_Amount_under, .func (PySem.W.fnOf "under" "Amount.under" (defArgs s_Amount_under) (defBody s_Amount_under) (defScope s_Amount_under) .none kV_Amount_under dc_Amount_under pm_Amount_under an_Amount_under cd_Amount_under ct_Amount_under), sl_Amount_under⟩) (c_Amount_under : PySem.W.codeIn K cd_Amount_under "Amount.under" = true) (k_Amount_under : PySem.W.keepIn K (.ref f_Amount_under) = true)
    (a_law_jar : PySem.W.nsIn K mainGlobals "_law_jar" = some (some (.ref f_law_jar)))
    (l_law_jar : K.lookup f_law_jar = some ⟨oc_law_jar, od_law_jar, .func (PySem.W.fnOf "_law_jar" "_law_jar" (defArgs s_law_jar) (defBody s_law_jar) (defScope s_law_jar) .none kV_law_jar dc_law_jar pm_law_jar an_law_jar cd_law_jar ct_law_jar), sl_law_jar⟩) (c_law_jar : PySem.W.codeIn K cd_law_jar "_law_jar" = true) (k_law_jar : PySem.W.keepIn K (.ref f_law_jar) = true)
    (a_law_take : PySem.W.nsIn K mainGlobals "_law_take" = some (some (.ref f_law_take)))
    (l_law_take : K.lookup f_law_take = some ⟨oc_law_take, od_law_take, .func (PySem.W.fnOf "_law_take" "_law_take" (defArgs s_law_take) (defBody s_law_take) (defScope s_law_take) .none kV_law_take dc_law_take pm_law_take an_law_take cd_law_take ct_law_take), sl_law_take⟩) (c_law_take : PySem.W.codeIn K cd_law_take "_law_take" = true) (k_law_take : PySem.W.keepIn K (.ref f_law_take) = true)
    (a_law_of : PySem.W.nsIn K mainGlobals "_law_of" = some (some (.ref f_law_of)))
    (l_law_of : K.lookup f_law_of = some ⟨oc_law_of, od_law_of, .func (PySem.W.fnOf "_law_of" "_law_of" (defArgs s_law_of) (defBody s_law_of) (defScope s_law_of) .none kV_law_of dc_law_of pm_law_of an_law_of cd_law_of ct_law_of), sl_law_of⟩) (c_law_of : PySem.W.codeIn K cd_law_of "_law_of" = true) (k_law_of : PySem.W.keepIn K (.ref f_law_of) = true)
    (a_law_frac : PySem.W.nsIn K mainGlobals "_law_frac" = some (some (.ref f_law_frac)))
    (l_law_frac : K.lookup f_law_frac = some ⟨oc_law_frac, od_law_frac, .func (PySem.W.fnOf "_law_frac" "_law_frac" (defArgs s_law_frac) (defBody s_law_frac) (defScope s_law_frac) .none kV_law_frac dc_law_frac pm_law_frac an_law_frac cd_law_frac ct_law_frac), sl_law_frac⟩) (c_law_frac : PySem.W.codeIn K cd_law_frac "_law_frac" = true) (k_law_frac : PySem.W.keepIn K (.ref f_law_frac) = true)
    (a_law_plus : PySem.W.nsIn K mainGlobals "_law_plus" = some (some (.ref f_law_plus)))
    (l_law_plus : K.lookup f_law_plus = some ⟨oc_law_plus, od_law_plus, .func (PySem.W.fnOf "_law_plus" "_law_plus" (defArgs s_law_plus) (defBody s_law_plus) (defScope s_law_plus) .none kV_law_plus dc_law_plus pm_law_plus an_law_plus cd_law_plus ct_law_plus), sl_law_plus⟩) (c_law_plus : PySem.W.codeIn K cd_law_plus "_law_plus" = true) (k_law_plus : PySem.W.keepIn K (.ref f_law_plus) = true)
    (a_law_times : PySem.W.nsIn K mainGlobals "_law_times" = some (some (.ref f_law_times)))
    (l_law_times : K.lookup f_law_times = some ⟨oc_law_times, od_law_times, .func (PySem.W.fnOf "_law_times" "_law_times" (defArgs s_law_times) (defBody s_law_times) (defScope s_law_times) .none kV_law_times dc_law_times pm_law_times an_law_times cd_law_times ct_law_times), sl_law_times⟩) (c_law_times : PySem.W.codeIn K cd_law_times "_law_times" = true) (k_law_times : PySem.W.keepIn K (.ref f_law_times) = true)
    (a_law_less : PySem.W.nsIn K mainGlobals "_law_less" = some (some (.ref f_law_less)))
    (l_law_less : K.lookup f_law_less = some ⟨oc_law_less, od_law_less, .func (PySem.W.fnOf "_law_less" "_law_less" (defArgs s_law_less) (defBody s_law_less) (defScope s_law_less) .none kV_law_less dc_law_less pm_law_less an_law_less cd_law_less ct_law_less), sl_law_less⟩) (c_law_less : PySem.W.codeIn K cd_law_less "_law_less" = true) (k_law_less : PySem.W.keepIn K (.ref f_law_less) = true)
    (a_law_pair : PySem.W.nsIn K mainGlobals "_law_pair" = some (some (.ref f_law_pair)))
    (l_law_pair : K.lookup f_law_pair = some ⟨oc_law_pair, od_law_pair, .func (PySem.W.fnOf "_law_pair" "_law_pair" (defArgs s_law_pair) (defBody s_law_pair) (defScope s_law_pair) .none kV_law_pair dc_law_pair pm_law_pair an_law_pair cd_law_pair ct_law_pair), sl_law_pair⟩) (c_law_pair : PySem.W.codeIn K cd_law_pair "_law_pair" = true) (k_law_pair : PySem.W.keepIn K (.ref f_law_pair) = true)
    (a_law_number : PySem.W.nsIn K mainGlobals "_law_number" = some (some (.ref f_law_number)))
    (l_law_number : K.lookup f_law_number = some ⟨oc_law_number, od_law_number, .func (PySem.W.fnOf "_law_number" "_law_number" (defArgs s_law_number) (defBody s_law_number) (defScope s_law_number) .none kV_law_number dc_law_number pm_law_number an_law_number cd_law_number ct_law_number), sl_law_number⟩) (c_law_number : PySem.W.codeIn K cd_law_number "_law_number" = true) (k_law_number : PySem.W.keepIn K (.ref f_law_number) = true)
    (a_law_amount : PySem.W.nsIn K mainGlobals "_law_amount" = some (some (.ref f_law_amount)))
    (l_law_amount : K.lookup f_law_amount = some ⟨oc_law_amount, od_law_amount, .func (PySem.W.fnOf "_law_amount" "_law_amount" (defArgs s_law_amount) (defBody s_law_amount) (defScope s_law_amount) .none kV_law_amount dc_law_amount pm_law_amount an_law_amount cd_law_amount ct_law_amount), sl_law_amount⟩) (c_law_amount : PySem.W.codeIn K cd_law_amount "_law_amount" = true) (k_law_amount : PySem.W.keepIn K (.ref f_law_amount) = true)
    (a_law_is_made : PySem.W.nsIn K mainGlobals "_law_is_made" = some (some (.ref f_law_is_made)))
    (l_law_is_made : K.lookup f_law_is_made = some ⟨oc_law_is_made, od_law_is_made, .func (PySem.W.fnOf "_law_is_made" "_law_is_made" (defArgs s_law_is_made) (defBody s_law_is_made) (defScope s_law_is_made) .none kV_law_is_made dc_law_is_made pm_law_is_made an_law_is_made cd_law_is_made ct_law_is_made), sl_law_is_made⟩) (c_law_is_made : PySem.W.codeIn K cd_law_is_made "_law_is_made" = true) (k_law_is_made : PySem.W.keepIn K (.ref f_law_is_made) = true)
    (a_law_divides : PySem.W.nsIn K mainGlobals "_law_divides" = some (some (.ref f_law_divides)))
    (l_law_divides : K.lookup f_law_divides = some ⟨oc_law_divides, od_law_divides, .func (PySem.W.fnOf "_law_divides" "_law_divides" (defArgs s_law_divides) (defBody s_law_divides) (defScope s_law_divides) .none kV_law_divides dc_law_divides pm_law_divides an_law_divides cd_law_divides ct_law_divides), sl_law_divides⟩) (c_law_divides : PySem.W.codeIn K cd_law_divides "_law_divides" = true) (k_law_divides : PySem.W.keepIn K (.ref f_law_divides) = true)
    (a_law_both_fine : PySem.W.nsIn K mainGlobals "_law_both_fine" = some (some (.ref f_law_both_fine)))
    (l_law_both_fine : K.lookup f_law_both_fine = some ⟨oc_law_both_fine, od_law_both_fine, .func (PySem.W.fnOf "_law_both_fine" "_law_both_fine" (defArgs s_law_both_fine) (defBody s_law_both_fine) (defScope s_law_both_fine) .none kV_law_both_fine dc_law_both_fine pm_law_both_fine an_law_both_fine cd_law_both_fine ct_law_both_fine), sl_law_both_fine⟩) (c_law_both_fine : PySem.W.codeIn K cd_law_both_fine "_law_both_fine" = true) (k_law_both_fine : PySem.W.keepIn K (.ref f_law_both_fine) = true)
    (a_law_fine : PySem.W.nsIn K mainGlobals "_law_fine" = some (some (.ref f_law_fine)))
    (l_law_fine : K.lookup f_law_fine = some ⟨oc_law_fine, od_law_fine, .func (PySem.W.fnOf "_law_fine" "_law_fine" (defArgs s_law_fine) (defBody s_law_fine) (defScope s_law_fine) .none kV_law_fine dc_law_fine pm_law_fine an_law_fine cd_law_fine ct_law_fine), sl_law_fine⟩) (c_law_fine : PySem.W.codeIn K cd_law_fine "_law_fine" = true) (k_law_fine : PySem.W.keepIn K (.ref f_law_fine) = true)
    (a_law : PySem.W.nsIn K mainGlobals "law" = some (some (.ref f_law)))
    (l_law : K.lookup f_law = some ⟨oc_law, od_law, .func (PySem.W.fnOf "law" "law" (defArgs s_law) (defBody s_law) (defScope s_law) .none kV_law dc_law pm_law an_law cd_law ct_law), sl_law⟩) (c_law : PySem.W.codeIn K cd_law "law" = true) (k_law : PySem.W.keepIn K (.ref f_law) = true)
    (z_int : PySem.W.nsIn K mainGlobals "int" = some none)
    (z_bool : PySem.W.nsIn K mainGlobals "bool" = some none)
    (z_isinstance : PySem.W.nsIn K mainGlobals "isinstance" = some none)
    (z_abs : PySem.W.nsIn K mainGlobals "abs" = some none)
    (z_len : PySem.W.nsIn K mainGlobals "len" = some none)
    (z_range : PySem.W.nsIn K mainGlobals "range" = some none)
    (z_max : PySem.W.nsIn K mainGlobals "max" = some none)
    (z_min : PySem.W.nsIn K mainGlobals "min" = some none)
    (z_all : PySem.W.nsIn K mainGlobals "all" = some none)
    (z_repr : PySem.W.nsIn K mainGlobals "repr" = some none)
    (lM : K.lookup fM = some ⟨oc_M, od_M, .func (PySem.W.ksFn "__init__" "MeterError.__init__" (meAr ⟨4, 17, 4, 21⟩ ⟨4, 23, 4, 28⟩) (meB ⟨5, 8, 5, 13⟩ ⟨5, 8, 5, 15⟩ ⟨5, 8, 5, 24⟩ ⟨5, 25, 5, 30⟩ ⟨5, 8, 5, 31⟩ ⟨5, 8, 5, 31⟩ ⟨6, 8, 6, 12⟩ ⟨6, 8, 6, 18⟩ ⟨6, 21, 6, 26⟩ ⟨6, 8, 6, 26⟩) meSc .none kV_M dc_M pm_M an_M (.ref cdM) ct_M ccM), osl_M⟩)
    (cM : PySem.W.codeIn K (.ref cdM) "MeterError.__init__" = true)
    (kdM : K.lookup cdM = some ⟨cla_M, cdd_M, .fields vs_M, ccs_M⟩)
    (vsM : vs_M[2]? = some (.str file_M tf_M))
    (flM : ((l.prog.main.file : Str) == file_M) = true)
    (clM : K.lookup ccM = some ⟨cl_M, cld_M, .cell (some (.ref CM)), csl_M⟩)
    (cdDM : PySem.W.clsIn K CM = some cdD_M)
    (tpM : (l.prog.main.scope.names.lookup ("super" : Str)).isSome = false)
    (opM : PySem.W.nsIn K PySem.cStatics "thirdparty.any" = some none)
    (zsM : PySem.W.nsIn K mainGlobals "super" = some none)
    (tyfM : PySem.W.typeIn K (.ref fM) = some (.type "function"))
    (cnX : PySem.W.specialIn K (.builtin "object.__class__") "__get__" = some (some (.builtin "getset_descriptor.__get__")))
    (ctX : PySem.W.takesIn K (.builtin "object.__class__") = some true)
    (aC_MeterError : PySem.W.nsIn K mainGlobals "MeterError" = some (some (.ref CM)))
    (xL_MeterError : K.lookup CM = some (excClassObj nm_MeterError q_MeterError CM N_MeterError bs_MeterError [.type "ValueError", .type "Exception", .type "BaseException", .type "object"] true sn_MeterError sub_MeterError ab_MeterError col_MeterError dd_MeterError m0_MeterError m1_MeterError m2_MeterError m3_MeterError m5_MeterError "ValueError.__new__"))
    (sa_MeterError : PySem.W.findIn K (.ref CM) "__setattr__" = some (some (.builtin "object.__setattr__")))
    (eC_MeterError : PySem.W.subIn K (.ref CM) (.type "BaseException") = some true)
    (tC_MeterError : PySem.W.typeIn K (.ref CM) = some (.type "type"))
    (kC_MeterError : PySem.W.keepIn K (.ref CM) = true)
    (i_MeterError : PySem.W.findIn K (.ref CM) "__init__" = some (some (.ref fM)))
    (m_MeterError : PySem.W.mroIn K CM (.ref CM) = some true)
    (s_MeterError : PySem.W.ks_superIn K CM CM "__init__" = some (some (.builtin "ValueError.__init__")))
    (b_MeterError : PySem.W.subIn K (.ref CM) (.type "ValueError") = some true)
    (v_MeterError : PySem.W.findIn K (.ref CM) "value" = some none)
    (hg_MeterError : PySem.W.findIn K (.ref CM) "__getattribute__" = some (some (.builtin "BaseException.__getattribute__")))
    (hk_MeterError : PySem.W.findIn K (.ref CM) "__getattr__" = some none)
    (hd_MeterError : PySem.W.hasDictIn K CM = true)
    (ha_MeterError : PySem.W.findIn K (.ref CM) "__class__" = some (some (.builtin "object.__class__")))
    (hm_MeterError : PySem.W.mroIn K CM (.type "object") = some true)
    (ss_MeterError : PySem.W.subIn K (.ref CM) (.ref CM) = some true)
    (aC_NoQuotient : PySem.W.nsIn K mainGlobals "NoQuotient" = some (some (.ref C_NoQuotient)))
    (xL_NoQuotient : K.lookup C_NoQuotient = some (excClassObj nm_NoQuotient q_NoQuotient C_NoQuotient N_NoQuotient bs_NoQuotient [.ref CM, .type "ValueError", .type "Exception", .type "BaseException", .type "object"] true sn_NoQuotient sub_NoQuotient ab_NoQuotient col_NoQuotient dd_NoQuotient m0_NoQuotient m1_NoQuotient m2_NoQuotient m3_NoQuotient m5_NoQuotient "ValueError.__new__"))
    (sa_NoQuotient : PySem.W.findIn K (.ref C_NoQuotient) "__setattr__" = some (some (.builtin "object.__setattr__")))
    (eC_NoQuotient : PySem.W.subIn K (.ref C_NoQuotient) (.type "BaseException") = some true)
    (tC_NoQuotient : PySem.W.typeIn K (.ref C_NoQuotient) = some (.type "type"))
    (kC_NoQuotient : PySem.W.keepIn K (.ref C_NoQuotient) = true)
    (i_NoQuotient : PySem.W.findIn K (.ref C_NoQuotient) "__init__" = some (some (.ref fM)))
    (m_NoQuotient : PySem.W.mroIn K C_NoQuotient (.ref CM) = some true)
    (s_NoQuotient : PySem.W.ks_superIn K C_NoQuotient CM "__init__" = some (some (.builtin "ValueError.__init__")))
    (b_NoQuotient : PySem.W.subIn K (.ref C_NoQuotient) (.type "ValueError") = some true)
    (v_NoQuotient : PySem.W.findIn K (.ref C_NoQuotient) "value" = some none)
    (hg_NoQuotient : PySem.W.findIn K (.ref C_NoQuotient) "__getattribute__" = some (some (.builtin "BaseException.__getattribute__")))
    (hk_NoQuotient : PySem.W.findIn K (.ref C_NoQuotient) "__getattr__" = some none)
    (hd_NoQuotient : PySem.W.hasDictIn K C_NoQuotient = true)
    (ha_NoQuotient : PySem.W.findIn K (.ref C_NoQuotient) "__class__" = some (some (.builtin "object.__class__")))
    (hm_NoQuotient : PySem.W.mroIn K C_NoQuotient (.type "object") = some true)
    (ss_NoQuotient : PySem.W.subIn K (.ref C_NoQuotient) (.ref C_NoQuotient) = some true)
    (sfA : PySem.W.selfFirst K CA = true)
    (niA : PySem.W.subIn K (.type "int") (.ref CA) = some false)
    (pa_number : PySem.W.findIn K (.ref CA) "number" = some (some (.ref pp_number)))
    (pg_number : PySem.W.specialIn K (.ref pp_number) "__get__" = some (some (.builtin "property.__get__")))
    (pt_number : PySem.W.takesIn K (.ref pp_number) = some true)
    (pr_number : PySem.W.recIn K pp_number "property" = some (.ref f_Amount_number :: rs_number))
    (pa_under : PySem.W.findIn K (.ref CA) "under" = some (some (.ref pp_under)))
    (pg_under : PySem.W.specialIn K (.ref pp_under) "__get__" = some (some (.builtin "property.__get__")))
    (pt_under : PySem.W.takesIn K (.ref pp_under) = some true)
    (pr_under : PySem.W.recIn K pp_under "property" = some (.ref f_Amount_under :: rs_under))
    : ∃ fd : FuncData, (∀ (s : Shared) (v : Value), BindsTo s fd ⟨[v], []⟩ [("_law_script", v)]) ∧ ∀ base : Heap, K.In base → base.Ns mainGlobals mg → FnG l.prog w K mg base CX0 10 fa fd ["_law_script"] (sp_law K) := by
  have e := hfa.symm.trans (PySem.W.mg_of X G a_law)
  cases e
  have F_is_integer := fun_mk (st := s_is_integer) l_is_integer c_is_integer k_is_integer
  have b_is_integer := F_is_integer.binds (ps := ["value"]) fun _ _ _ _ _ _ us hl => match us, hl with | [_], _ => rfl
  have g_is_integer : mg "is_integer" = some (.ref f_is_integer) := PySem.W.mg_of X G a_is_integer
  have F_shared_by := fun_mk (st := s_shared_by) l_shared_by c_shared_by k_shared_by
  have b_shared_by := F_shared_by.binds (ps := ["one", "other"]) fun _ _ _ _ _ _ us hl => match us, hl with | [_, _], _ => rfl
  have g_shared_by : mg "shared_by" = some (.ref f_shared_by) := PySem.W.mg_of X G a_shared_by
  have F_Amount_init : FunD K "__init__" "Amount.__init__" (defArgs s_Amount_init) (defBody s_Amount_init) (defScope s_Amount_init) [V.int 1] [] f_Amount_init _ := ⟨⟨_, _, _, _, _, _, _, _, _, _, rfl, l_Amount_init, c_Amount_init, .inr ⟨by simp, td_Amount_init, _, [.int 1 tk_Amount_init], n_Amount_init, rfl, t_Amount_init, rfl, .cons ⟨_, rfl⟩ .nil⟩, .inl rfl⟩, k_Amount_init⟩
  have F_is_amount := fun_mk (st := s_is_amount) l_is_amount c_is_amount k_is_amount
  have b_is_amount := F_is_amount.binds (ps := ["value"]) fun _ _ _ _ _ _ us hl => match us, hl with | [_], _ => rfl
  have g_is_amount : mg "is_amount" = some (.ref f_is_amount) := PySem.W.mg_of X G a_is_amount
  have F_amount_of := fun_mk (st := s_amount_of) l_amount_of c_amount_of k_amount_of
  have b_amount_of := F_amount_of.binds (ps := ["value"]) fun _ _ _ _ _ _ us hl => match us, hl with | [_], _ => rfl
  have g_amount_of : mg "amount_of" = some (.ref f_amount_of) := PySem.W.mg_of X G a_amount_of
  have F_sum_of_both := fun_mk (st := s_sum_of_both) l_sum_of_both c_sum_of_both k_sum_of_both
  have b_sum_of_both := F_sum_of_both.binds (ps := ["one", "other", "by"]) fun _ _ _ _ _ _ us hl => match us, hl with | [_, _, _], _ => rfl
  have g_sum_of_both : mg "sum_of_both" = some (.ref f_sum_of_both) := PySem.W.mg_of X G a_sum_of_both
  have F_product := fun_mk (st := s_product) l_product c_product k_product
  have b_product := F_product.binds (ps := ["one", "other"]) fun _ _ _ _ _ _ us hl => match us, hl with | [_, _], _ => rfl
  have g_product : mg "product" = some (.ref f_product) := PySem.W.mg_of X G a_product
  have F_quotient := fun_mk (st := s_quotient) l_quotient c_quotient k_quotient
  have b_quotient := F_quotient.binds (ps := ["one", "other"]) fun _ _ _ _ _ _ us hl => match us, hl with | [_, _], _ => rfl
  have g_quotient : mg "quotient" = some (.ref f_quotient) := PySem.W.mg_of X G a_quotient
  have F_Amount_add := fun_mk (st := s_Amount_add) l_Amount_add c_Amount_add k_Amount_add
  have b_Amount_add := F_Amount_add.binds (ps := ["self", "other"]) fun _ _ _ _ _ _ us hl => match us, hl with | [_, _], _ => rfl
  have F_Amount_radd := fun_mk (st := s_Amount_radd) l_Amount_radd c_Amount_radd k_Amount_radd
  have b_Amount_radd := F_Amount_radd.binds (ps := ["self", "other"]) fun _ _ _ _ _ _ us hl => match us, hl with | [_, _], _ => rfl
  have F_Amount_sub := fun_mk (st := s_Amount_sub) l_Amount_sub c_Amount_sub k_Amount_sub
  have b_Amount_sub := F_Amount_sub.binds (ps := ["self", "other"]) fun _ _ _ _ _ _ us hl => match us, hl with | [_, _], _ => rfl
  have F_Amount_rsub := fun_mk (st := s_Amount_rsub) l_Amount_rsub c_Amount_rsub k_Amount_rsub
  have b_Amount_rsub := F_Amount_rsub.binds (ps := ["self", "other"]) fun _ _ _ _ _ _ us hl => match us, hl with | [_, _], _ => rfl
  have F_Amount_mul := fun_mk (st := s_Amount_mul) l_Amount_mul c_Amount_mul k_Amount_mul
  have b_Amount_mul := F_Amount_mul.binds (ps := ["self", "other"]) fun _ _ _ _ _ _ us hl => match us, hl with | [_, _], _ => rfl
  have F_Amount_rmul := fun_mk (st := s_Amount_rmul) l_Amount_rmul c_Amount_rmul k_Amount_rmul
  have b_Amount_rmul := F_Amount_rmul.binds (ps := ["self", "other"]) fun _ _ _ _ _ _ us hl => match us, hl with | [_, _], _ => rfl
  have F_Amount_floordiv := fun_mk (st := s_Amount_floordiv) l_Amount_floordiv c_Amount_floordiv k_Amount_floordiv
  have b_Amount_floordiv := F_Amount_floordiv.binds (ps := ["self", "other"]) fun _ _ _ _ _ _ us hl => match us, hl with | [_, _], _ => rfl
  have F_Amount_rfloordiv := fun_mk (st := s_Amount_rfloordiv) l_Amount_rfloordiv c_Amount_rfloordiv k_Amount_rfloordiv
  have b_Amount_rfloordiv := F_Amount_rfloordiv.binds (ps := ["self", "other"]) fun _ _ _ _ _ _ us hl => match us, hl with | [_, _], _ => rfl
  have F_Amount_neg := fun_mk (st := s_Amount_neg) l_Amount_neg c_Amount_neg k_Amount_neg
  have b_Amount_neg := F_Amount_neg.binds (ps := ["self"]) fun _ _ _ _ _ _ us hl => match us, hl with | [_], _ => rfl
  have F_Amount_abs := fun_mk (st := s_Amount_abs) l_Amount_abs c_Amount_abs k_Amount_abs
  have b_Amount_abs := F_Amount_abs.binds (ps := ["self"]) fun _ _ _ _ _ _ us hl => match us, hl with | [_], _ => rfl
  have F_Amount_repr := fun_mk (st := s_Amount_repr) l_Amount_repr c_Amount_repr k_Amount_repr
  have b_Amount_repr := F_Amount_repr.binds (ps := ["self"]) fun _ _ _ _ _ _ us hl => match us, hl with | [_], _ => rfl
  have F_Amount_number := fun_mk (st := s_Amount_number) l_Amount_number c_Amount_number k_Amount_number
  have b_Amount_number := F_Amount_number.binds (ps := ["self"]) fun _ _ _ _ _ _ us hl => match us, hl with | [_], _ => rfl
  have F_Amount_under := fun_mk (st := s_Amount_under) l_Amount_under c_Amount_under k_Amount_under
  have b_Amount_under := F_Amount_under.binds (ps := ["self"]) fun _ _ _ _ _ _ us hl => match us, hl with | [_], _ => rfl
  have F_law_jar := fun_mk (st := s_law_jar) l_law_jar c_law_jar k_law_jar
  have b_law_jar := F_law_jar.binds (ps := ["_law_script", "_law_k"]) fun _ _ _ _ _ _ us hl => match us, hl with | [_, _], _ => rfl
  have g_law_jar : mg "_law_jar" = some (.ref f_law_jar) := PySem.W.mg_of X G a_law_jar
  have F_law_take := fun_mk (st := s_law_take) l_law_take c_law_take k_law_take
  have b_law_take := F_law_take.binds (ps := ["_law_jar_here", "_law_upto"]) fun _ _ _ _ _ _ us hl => match us, hl with | [_, _], _ => rfl
  have g_law_take : mg "_law_take" = some (.ref f_law_take) := PySem.W.mg_of X G a_law_take
  have F_law_of := fun_mk (st := s_law_of) l_law_of c_law_of k_law_of
  have b_law_of := F_law_of.binds (ps := ["_law_jar_here", "_law_some"]) fun _ _ _ _ _ _ us hl => match us, hl with | [_, _], _ => rfl
  have g_law_of : mg "_law_of" = some (.ref f_law_of) := PySem.W.mg_of X G a_law_of
  have F_law_frac := fun_mk (st := s_law_frac) l_law_frac c_law_frac k_law_frac
  have b_law_frac := F_law_frac.binds (ps := ["_law_number_here", "_law_under"]) fun _ _ _ _ _ _ us hl => match us, hl with | [_, _], _ => rfl
  have g_law_frac : mg "_law_frac" = some (.ref f_law_frac) := PySem.W.mg_of X G a_law_frac
  have F_law_plus := fun_mk (st := s_law_plus) l_law_plus c_law_plus k_law_plus
  have b_law_plus := F_law_plus.binds (ps := ["_law_one", "_law_other"]) fun _ _ _ _ _ _ us hl => match us, hl with | [_, _], _ => rfl
  have g_law_plus : mg "_law_plus" = some (.ref f_law_plus) := PySem.W.mg_of X G a_law_plus
  have F_law_times := fun_mk (st := s_law_times) l_law_times c_law_times k_law_times
  have b_law_times := F_law_times.binds (ps := ["_law_one", "_law_other"]) fun _ _ _ _ _ _ us hl => match us, hl with | [_, _], _ => rfl
  have g_law_times : mg "_law_times" = some (.ref f_law_times) := PySem.W.mg_of X G a_law_times
  have F_law_less := fun_mk (st := s_law_less) l_law_less c_law_less k_law_less
  have b_law_less := F_law_less.binds (ps := ["_law_one", "_law_other"]) fun _ _ _ _ _ _ us hl => match us, hl with | [_, _], _ => rfl
  have g_law_less : mg "_law_less" = some (.ref f_law_less) := PySem.W.mg_of X G a_law_less
  have F_law_pair := fun_mk (st := s_law_pair) l_law_pair c_law_pair k_law_pair
  have b_law_pair := F_law_pair.binds (ps := ["_law_amount_here"]) fun _ _ _ _ _ _ us hl => match us, hl with | [_], _ => rfl
  have g_law_pair : mg "_law_pair" = some (.ref f_law_pair) := PySem.W.mg_of X G a_law_pair
  have F_law_number := fun_mk (st := s_law_number) l_law_number c_law_number k_law_number
  have b_law_number := F_law_number.binds (ps := ["_law_jar_here"]) fun _ _ _ _ _ _ us hl => match us, hl with | [_], _ => rfl
  have g_law_number : mg "_law_number" = some (.ref f_law_number) := PySem.W.mg_of X G a_law_number
  have F_law_amount := fun_mk (st := s_law_amount) l_law_amount c_law_amount k_law_amount
  have b_law_amount := F_law_amount.binds (ps := ["_law_jar_here", "_law_is_own"]) fun _ _ _ _ _ _ us hl => match us, hl with | [_, _], _ => rfl
  have g_law_amount : mg "_law_amount" = some (.ref f_law_amount) := PySem.W.mg_of X G a_law_amount
  have F_law_is_made := fun_mk (st := s_law_is_made) l_law_is_made c_law_is_made k_law_is_made
  have b_law_is_made := F_law_is_made.binds (ps := ["_law_made", "_law_pair_here"]) fun _ _ _ _ _ _ us hl => match us, hl with | [_, _], _ => rfl
  have g_law_is_made : mg "_law_is_made" = some (.ref f_law_is_made) := PySem.W.mg_of X G a_law_is_made
  have F_law_divides := fun_mk (st := s_law_divides) l_law_divides c_law_divides k_law_divides
  have b_law_divides := F_law_divides.binds (ps := ["_law_one", "_law_other"]) fun _ _ _ _ _ _ us hl => match us, hl with | [_, _], _ => rfl
  have g_law_divides : mg "_law_divides" = some (.ref f_law_divides) := PySem.W.mg_of X G a_law_divides
  have F_law_both_fine := fun_mk (st := s_law_both_fine) l_law_both_fine c_law_both_fine k_law_both_fine
  have b_law_both_fine := F_law_both_fine.binds (ps := ["_law_one", "_law_other"]) fun _ _ _ _ _ _ us hl => match us, hl with | [_, _], _ => rfl
  have g_law_both_fine : mg "_law_both_fine" = some (.ref f_law_both_fine) := PySem.W.mg_of X G a_law_both_fine
  have F_law_fine := fun_mk (st := s_law_fine) l_law_fine c_law_fine k_law_fine
  have b_law_fine := F_law_fine.binds (ps := ["_law_jar_here"]) fun _ _ _ _ _ _ us hl => match us, hl with | [_], _ => rfl
  have g_law_fine : mg "_law_fine" = some (.ref f_law_fine) := PySem.W.mg_of X G a_law_fine
  have F_law := fun_mk (st := s_law) l_law c_law k_law
  have b_law := F_law.binds (ps := ["_law_script"]) fun _ _ _ _ _ _ us hl => match us, hl with | [_], _ => rfl
  have cS : SCls K CA := ⟨pg, ic, po, sa⟩
  have cI : SIsi K CA := ⟨ca, cn, ct, cm⟩
  have cO : OwnC K CA := ⟨cS, cI, ne, m_int, m_bool, m_NoneType, m_str, m_list, m_tuple, m_dict⟩
  have cA : AmC K CA p0 p1 := AmC.of cO ⟨s0_at, s0_get, s0_tk, s0_ty, s0_ix, by decide⟩ ⟨s1_at, s1_get, s1_tk, s1_ty, s1_ix, by decide⟩ ty
  have gC : mg "Amount" = some (.ref CA) := PySem.W.mg_of X G aC
  have erM : ErC l.prog K mg CM fM := ⟨⟨⟨_, _, _, _, _, _, _, _, _, _, _, _, _, _, _, _, _, _, _, _, _, _, _, _, _, _, _, _, _, _, _, _, _, lM, cM, kdM, vsM, flM, clM, cdDM, tpM, rfl⟩, opM⟩, PySem.W.mg_none_of X G zsM⟩
  have x_MeterError : Exn l.prog K mg "MeterError" CM CM fM := ⟨erM, ⟨⟨⟨_, _, _, _, _, _, _, _, _, _, _, _, _, _, _, xL_MeterError, rfl⟩, sa_MeterError, eC_MeterError, tC_MeterError, kC_MeterError⟩, i_MeterError, tyfM, m_MeterError, s_MeterError, b_MeterError, v_MeterError⟩, PySem.W.mg_of X G aC_MeterError, ⟨⟨hg_MeterError, hk_MeterError, eC_MeterError, hd_MeterError, ha_MeterError, cnX, ctX, hm_MeterError⟩, v_MeterError⟩⟩
  have x_NoQuotient : Exn l.prog K mg "NoQuotient" C_NoQuotient CM fM := ⟨erM, ⟨⟨⟨_, _, _, _, _, _, _, _, _, _, _, _, _, _, _, xL_NoQuotient, rfl⟩, sa_NoQuotient, eC_NoQuotient, tC_NoQuotient, kC_NoQuotient⟩, i_NoQuotient, tyfM, m_NoQuotient, s_NoQuotient, b_NoQuotient, v_NoQuotient⟩, PySem.W.mg_of X G aC_NoQuotient, ⟨⟨hg_NoQuotient, hk_NoQuotient, eC_NoQuotient, hd_NoQuotient, ha_NoQuotient, cnX, ctX, hm_NoQuotient⟩, v_NoQuotient⟩⟩
  have bo_add : BoC K CA "add" f_Amount_add f_Amount_radd := ⟨sfA, a_Amount_add, i_Amount_add, a_Amount_radd, i_Amount_radd, niA, m_int⟩
  have bo_sub : BoC K CA "sub" f_Amount_sub f_Amount_rsub := ⟨sfA, a_Amount_sub, i_Amount_sub, a_Amount_rsub, i_Amount_rsub, niA, m_int⟩
  have bo_mul : BoC K CA "mul" f_Amount_mul f_Amount_rmul := ⟨sfA, a_Amount_mul, i_Amount_mul, a_Amount_rmul, i_Amount_rmul, niA, m_int⟩
  have bo_floordiv : BoC K CA "floordiv" f_Amount_floordiv f_Amount_rfloordiv := ⟨sfA, a_Amount_floordiv, i_Amount_floordiv, a_Amount_rfloordiv, i_Amount_rfloordiv, niA, m_int⟩
  have T : Txt K mg CA p0 p1 := ⟨cA, ⟨_, gC, rfl⟩, PySem.W.mg_none_of X G z_int, PySem.W.mg_none_of X G z_bool, PySem.W.mg_none_of X G z_isinstance, PySem.W.mg_none_of X G z_abs, PySem.W.mg_none_of X G z_len, PySem.W.mg_none_of X G z_range, PySem.W.mg_none_of X G z_max, PySem.W.mg_none_of X G z_min, PySem.W.mg_none_of X G z_all, PySem.W.mg_none_of X G z_repr⟩
  obtain ⟨ds1, v1, b1⟩ := F_Amount_init.binds1 (ps := ["self", "number", "under"]) 2 0 (by simp) rfl fun T kV doc pm an cdv ct us its h1 h2 => match us, h1, its, h2 with | [_, _], _, [_], _ => ⟨_, rfl, rfl⟩
  obtain ⟨ds2, v2, b2⟩ := F_Amount_init.binds1 (ps := ["self", "number", "under"]) 3 1 (by simp) rfl fun T kV doc pm an cdv ct us its h1 h2 => match us, h1, its, h2 with | [_, _, _], _, [_], _ => ⟨_, rfl, rfl⟩
  have M : Mk K CA f_Amount_init := ⟨mk, a_Amount_init, i_Amount_init, kc⟩
  refine ⟨PySem.W.fnOf "law" "law" (defArgs s_law) (defBody s_law) (defScope s_law) .none kV_law dc_law pm_law an_law cd_law ct_law, fun s v => .of_eq rfl, fun base _ _ => ?_⟩
  have c1 : Cal l.prog w K mg base 1 "is_integer" (sp_is_integer K CA) [] := ⟨_, _, _, _, ok_is_integer F_is_integer T, g_is_integer, k_is_integer, b_is_integer, .nil⟩
  have c2 : Cal l.prog w K mg base 1 "shared_by" sp_shared_by [] := ⟨_, _, _, _, ok_shared_by F_shared_by T, g_shared_by, k_shared_by, b_shared_by, .nil⟩
  have oI : FnOk l.prog w K mg base CX0 2 f_Amount_init _ _ (sp_init CA) := ok_init F_Amount_init T c1 c2
  have m1 : Mak l.prog w K mg base 2 "Amount" CA (sp_init CA) [.int 1] := ⟨_, _, _, _, M, oI, gC, b1, v1⟩
  have m2 : Mak l.prog w K mg base 2 "Amount" CA (sp_init CA) [] := ⟨_, _, _, _, M, oI, gC, b2, v2⟩
  have c3 : Cal l.prog w K mg base 2 "is_amount" (sp_is_amount K CA) [] := ⟨_, _, _, _, ok_is_amount F_is_amount T c1, g_is_amount, k_is_amount, b_is_amount, .nil⟩
  have c4 : Cal l.prog w K mg base 4 "amount_of" (sp_amount_of CA) [] := ⟨_, _, _, _, ok_amount_of F_amount_of T m1, g_amount_of, k_amount_of, b_amount_of, .nil⟩
  have c5 : Cal l.prog w K mg base 5 "sum_of_both" (sp_sum CA) [] := ⟨_, _, _, _, ok_sum_of_both F_sum_of_both T c4 m2, g_sum_of_both, k_sum_of_both, b_sum_of_both, .nil⟩
  have c6 : Cal l.prog w K mg base 5 "product" (sp_prod CA) [] := ⟨_, _, _, _, ok_product F_product T c4 m2, g_product, k_product, b_product, .nil⟩
  have c7 : CalX l.prog w K mg base 5 "quotient" (sp_quot CA C_NoQuotient) [] := ⟨_, _, _, _, ok_quotient F_quotient T c4 m2 x_NoQuotient, g_quotient, k_quotient, b_quotient, .nil⟩
  have r_add := fnR_of (ok_add F_Amount_add T c3 c5) b_Amount_add
  have r_radd := fnR_of (ok_radd F_Amount_radd T c3 c5) b_Amount_radd
  have r_sub := fnR_of (ok_sub F_Amount_sub T c3 c5) b_Amount_sub
  have r_rsub := fnR_of (ok_rsub F_Amount_rsub T c3 c5 c4) b_Amount_rsub
  have r_mul := fnR_of (ok_mul F_Amount_mul T c3 c6) b_Amount_mul
  have r_rmul := fnR_of (ok_rmul F_Amount_rmul T c3 c6) b_Amount_rmul
  have r_floordiv := fnR_of (ok_floordiv F_Amount_floordiv T c3 c7) b_Amount_floordiv
  have r_rfloordiv := fnR_of (ok_rfloordiv F_Amount_rfloordiv T c3 c7) b_Amount_rfloordiv
  have r_neg := fnR_of (ok_neg F_Amount_neg T m2) b_Amount_neg
  have r_abs := fnR_of (ok_abs F_Amount_abs T m2) b_Amount_abs
  have cc : AmOp l.prog w K mg base CA C_NoQuotient p0 p1 := ⟨cA, ⟨_, _, bo_add, r_add, r_radd⟩, ⟨_, _, bo_sub, r_sub, r_rsub⟩, ⟨_, _, bo_mul, r_mul, r_rmul⟩, ⟨_, _, bo_floordiv, r_floordiv, r_rfloordiv⟩, ⟨_, a_Amount_neg, i_Amount_neg, r_neg⟩, ⟨_, a_Amount_abs, i_Amount_abs, r_abs⟩⟩
  have R : AmR l.prog w K CA f_Amount_repr := amR_of F_Amount_repr cA a_Amount_repr i_Amount_repr
  have qn : PrC l.prog w K mg base CA "number" 1 (sp_pn CA) := ⟨cS, _, _, pa_number, pg_number, pt_number, ⟨_, pr_number⟩, fnR_of (ok_number F_Amount_number T) b_Amount_number⟩
  have qd : PrC l.prog w K mg base CA "under" 1 (sp_pd CA) := ⟨cS, _, _, pa_under, pg_under, pt_under, ⟨_, pr_under⟩, fnR_of (ok_under F_Amount_under T) b_Amount_under⟩
  have d1 : Cal l.prog w K mg base 1 "_law_jar" (sp_jar K) [] := ⟨_, _, _, _, ok_jar F_law_jar T, g_law_jar, k_law_jar, b_law_jar, .nil⟩
  have d2 : Cal l.prog w K mg base 1 "_law_take" sp_take [] := ⟨_, _, _, _, ok_take F_law_take T, g_law_take, k_law_take, b_law_take, .nil⟩
  have d3 : Cal l.prog w K mg base 2 "_law_of" (sp_of K) [] := ⟨_, _, _, _, ok_of F_law_of T d2, g_law_of, k_law_of, b_law_of, .nil⟩
  have d4 : Cal l.prog w K mg base 1 "_law_frac" sp_frac [] := ⟨_, _, _, _, ok_frac F_law_frac T, g_law_frac, k_law_frac, b_law_frac, .nil⟩
  have d5 : Cal l.prog w K mg base 2 "_law_plus" sp_lplus [] := ⟨_, _, _, _, ok_plus F_law_plus T d4, g_law_plus, k_law_plus, b_law_plus, .nil⟩
  have d6 : Cal l.prog w K mg base 2 "_law_times" sp_ltimes [] := ⟨_, _, _, _, ok_times F_law_times T d4, g_law_times, k_law_times, b_law_times, .nil⟩
  have d7 : Cal l.prog w K mg base 3 "_law_less" sp_lless [] := ⟨_, _, _, _, ok_less F_law_less T d5, g_law_less, k_law_less, b_law_less, .nil⟩
  have d8 : Cal l.prog w K mg base 3 "_law_pair" (sp_pair CA) [] := ⟨_, _, _, _, ok_pair F_law_pair T qn qd, g_law_pair, k_law_pair, b_law_pair, .nil⟩
  have d9 : Cal l.prog w K mg base 3 "_law_number" sp_number [] := ⟨_, _, _, _, ok_number' F_law_number T d2 d3, g_law_number, k_law_number, b_law_number, .nil⟩
  have d10 : Cal l.prog w K mg base 4 "_law_amount" (sp_amount CA) [] := ⟨_, _, _, _, ok_amount F_law_amount T d2 d9 m2, g_law_amount, k_law_amount, b_law_amount, .nil⟩
  have d11 : CalG l.prog w K mg base 3 "_law_is_made" (sp_is_made CA) [] := ⟨_, _, _, _, ok_is_made F_law_is_made T R qn qd, g_law_is_made, k_law_is_made, b_law_is_made, .nil⟩
  have d12 : CalG l.prog w K mg base 7 "_law_divides" (sp_div CA) [] := ⟨_, _, _, _, ok_divides F_law_divides T R cc x_NoQuotient ss_NoQuotient d8 d4 d11, g_law_divides, k_law_divides, b_law_divides, .nil⟩
  have d13 : CalG l.prog w K mg base 8 "_law_both_fine" (sp_div CA) [] := ⟨_, _, _, _, ok_both_fine F_law_both_fine T R cc d8 d5 d6 d7 d11 d12, g_law_both_fine, k_law_both_fine, b_law_both_fine, .nil⟩
  have d14 : CalG l.prog w K mg base 9 "_law_fine" sp_fine [] := ⟨_, _, _, _, ok_fine F_law_fine T cc d10 d8 d11 d13, g_law_fine, k_law_fine, b_law_fine, .nil⟩
  exact ok_law F_law T d14 d1
end Lw
open PySem PySem.W PyProof.Rows
set_option maxRecDepth 100000 in
set_option maxHeartbeats 0 in
theorem PySem.Challenge.cw_whoseuse_k02_sums_products_and_quotients_holds : PySem.Challenge.rw_whoseuse_k02_sums_products_and_quotients.Holds := by
  w_on; o_law; k_head; (case hw => w_witness2)
  k_fill
  refine WU.walk_ofG (l := PySem.Challenge.rw_whoseuse_k02_sums_products_and_quotients) (n := 63) (k := 10) (x := "_law_script") (CX := L2.CX0) (sp := fun _ K => Lw.sp_law K) rfl (by decide) rfl ⟨rfl, by decide, by decide⟩ (fun w h Y => PySem.W.kIn_of Y) ?F (fun w K H a ns h1 h2 h3 => ⟨a, ns, rfl, h3, h1, h2, fun _ => rfl⟩) (fun _ _ _ _ z => z)
  case F =>
    intro w mg fa h KX G hmg
    refine' Lw.all_mk KX G hmg ?aC ?pg ?ic ?po ?sa ?mk ?kc ?ca ?cn ?ct ?cm ?ne ?m_int ?m_bool ?m_NoneType ?m_str ?m_list ?m_tuple ?m_dict ?s0_at ?s0_get ?s0_tk ?s0_ty ?s0_ix ?s1_at ?s1_get ?s1_tk ?s1_ty ?s1_ix ?ty ?a_is_integer ?l_is_integer ?c_is_integer ?k_is_integer ?a_shared_by ?l_shared_by ?c_shared_by ?k_shared_by ?a_Amount_init ?i_Amount_init ?l_Amount_init ?c_Amount_init ?k_Amount_init ?t_Amount_init ?a_is_amount ?l_is_amount ?c_is_amount ?k_is_amount ?a_amount_of ?l_amount_of ?c_amount_of ?k_amount_of ?a_sum_of_both ?l_sum_of_both ?c_sum_of_both ?k_sum_of_both ?a_product ?l_product ?c_product ?k_product ?a_quotient ?l_quotient ?c_quotient ?k_quotient ?a_Amount_add ?i_Amount_add ?l_Amount_add ?c_Amount_add ?k_Amount_add ?a_Amount_radd ?i_Amount_radd ?l_Amount_radd ?c_Amount_radd ?k_Amount_radd ?a_Amount_sub ?i_Amount_sub ?l_Amount_sub ?c_Amount_sub ?k_Amount_sub ?a_Amount_rsub ?i_Amount_rsub ?l_Amount_rsub ?c_Amount_rsub ?k_Amount_rsub ?a_Amount_mul ?i_Amount_mul ?l_Amount_mul ?c_Amount_mul ?k_Amount_mul ?a_Amount_rmul ?i_Amount_rmul ?l_Amount_rmul ?c_Amount_rmul ?k_Amount_rmul ?a_Amount_floordiv ?i_Amount_floordiv ?l_Amount_floordiv ?c_Amount_floordiv ?k_Amount_floordiv ?a_Amount_rfloordiv ?i_Amount_rfloordiv ?l_Amount_rfloordiv ?c_Amount_rfloordiv ?k_Amount_rfloordiv ?a_Amount_neg ?i_Amount_neg ?l_Amount_neg ?c_Amount_neg ?k_Amount_neg ?a_Amount_abs ?i_Amount_abs ?l_Amount_abs ?c_Amount_abs ?k_Amount_abs ?a_Amount_repr ?i_Amount_repr ?l_Amount_repr ?c_Amount_repr ?k_Amount_repr ?l_Amount_number ?c_Amount_number ?k_Amount_number ?l_Amount_under ?c_Amount_under ?k_Amount_under ?a_law_jar ?l_law_jar ?c_law_jar ?k_law_jar ?a_law_take ?l_law_take ?c_law_take ?k_law_take ?a_law_of ?l_law_of ?c_law_of ?k_law_of ?a_law_frac ?l_law_frac ?c_law_frac ?k_law_frac ?a_law_plus ?l_law_plus ?c_law_plus ?k_law_plus ?a_law_times ?l_law_times ?c_law_times ?k_law_times ?a_law_less ?l_law_less ?c_law_less ?k_law_less ?a_law_pair ?l_law_pair ?c_law_pair ?k_law_pair ?a_law_number ?l_law_number ?c_law_number ?k_law_number ?a_law_amount ?l_law_amount ?c_law_amount ?k_law_amount ?a_law_is_made ?l_law_is_made ?c_law_is_made ?k_law_is_made ?a_law_divides ?l_law_divides ?c_law_divides ?k_law_divides ?a_law_both_fine ?l_law_both_fine ?c_law_both_fine ?k_law_both_fine ?a_law_fine ?l_law_fine ?c_law_fine ?k_law_fine ?a_law ?l_law ?c_law ?k_law ?z_int ?z_bool ?z_isinstance ?z_abs ?z_len ?z_range ?z_max ?z_min ?z_all ?z_repr ?lM ?cM ?kdM ?vsM ?flM ?clM ?cdDM ?tpM ?opM ?zsM ?tyfM ?cnX ?ctX ?aC_MeterError ?xL_MeterError ?sa_MeterError ?eC_MeterError ?tC_MeterError ?kC_MeterError ?i_MeterError ?m_MeterError ?s_MeterError ?b_MeterError ?v_MeterError ?hg_MeterError ?hk_MeterError ?hd_MeterError ?ha_MeterError ?hm_MeterError ?ss_MeterError ?aC_NoQuotient ?xL_NoQuotient ?sa_NoQuotient ?eC_NoQuotient ?tC_NoQuotient ?kC_NoQuotient ?i_NoQuotient ?m_NoQuotient ?s_NoQuotient ?b_NoQuotient ?v_NoQuotient ?hg_NoQuotient ?hk_NoQuotient ?hd_NoQuotient ?ha_NoQuotient ?hm_NoQuotient ?ss_NoQuotient ?sfA ?niA ?pa_number ?pg_number ?pt_number ?pr_number ?pa_under ?pg_under ?pt_under ?pr_under
    (case aC => k_is)
    (case pg => k_is)
    (case ic => k_is)
    (case po => k_is)
    (case sa => k_is)
    (case mk => k_is)
    (case kc => k_is)
    (case ca => k_is)
    (case cn => k_is)
    (case ct => k_is)
    (case cm => k_is)
    (case ne => k_is)
    (case m_int => k_is)
    (case m_bool => k_is)
    (case m_NoneType => k_is)
    (case m_str => k_is)
    (case m_list => k_is)
    (case m_tuple => k_is)
    (case m_dict => k_is)
    (case s0_at => k_is)
    (case s0_get => k_is)
    (case s0_tk => k_is)
    (case s0_ty => k_is)
    (case s0_ix => k_is)
    (case s1_at => k_is)
    (case s1_get => k_is)
    (case s1_tk => k_is)
    (case s1_ty => k_is)
    (case s1_ix => k_is)
    (case ty => k_is)
    (case a_is_integer => k_is)
    (case l_is_integer => k_is)
    (case c_is_integer => k_is)
    (case k_is_integer => k_is)
    (case a_shared_by => k_is)
    (case l_shared_by => k_is)
    (case c_shared_by => k_is)
    (case k_shared_by => k_is)
    (case a_Amount_init => k_is)
    (case i_Amount_init => k_is)
    (case l_Amount_init => k_is)
    (case c_Amount_init => k_is)
    (case k_Amount_init => k_is)
    (case t_Amount_init => k_is)
    (case a_is_amount => k_is)
    (case l_is_amount => k_is)
    (case c_is_amount => k_is)
    (case k_is_amount => k_is)
    (case a_amount_of => k_is)
    (case l_amount_of => k_is)
    (case c_amount_of => k_is)
    (case k_amount_of => k_is)
    (case a_sum_of_both => k_is)
    (case l_sum_of_both => k_is)
    (case c_sum_of_both => k_is)
    (case k_sum_of_both => k_is)
    (case a_product => k_is)
    (case l_product => k_is)
    (case c_product => k_is)
    (case k_product => k_is)
    (case a_quotient => k_is)
    (case l_quotient => k_is)
    (case c_quotient => k_is)
    (case k_quotient => k_is)
    (case a_Amount_add => k_is)
    (case i_Amount_add => k_is)
    (case l_Amount_add => k_is)
    (case c_Amount_add => k_is)
    (case k_Amount_add => k_is)
    (case a_Amount_radd => k_is)
    (case i_Amount_radd => k_is)
    (case l_Amount_radd => k_is)
    (case c_Amount_radd => k_is)
    (case k_Amount_radd => k_is)
    (case a_Amount_sub => k_is)
    (case i_Amount_sub => k_is)
    (case l_Amount_sub => k_is)
    (case c_Amount_sub => k_is)
    (case k_Amount_sub => k_is)
    (case a_Amount_rsub => k_is)
    (case i_Amount_rsub => k_is)
    (case l_Amount_rsub => k_is)
    (case c_Amount_rsub => k_is)
    (case k_Amount_rsub => k_is)
    (case a_Amount_mul => k_is)
    (case i_Amount_mul => k_is)
    (case l_Amount_mul => k_is)
    (case c_Amount_mul => k_is)
    (case k_Amount_mul => k_is)
    (case a_Amount_rmul => k_is)
    (case i_Amount_rmul => k_is)
    (case l_Amount_rmul => k_is)
    (case c_Amount_rmul => k_is)
    (case k_Amount_rmul => k_is)
    (case a_Amount_floordiv => k_is)
    (case i_Amount_floordiv => k_is)
    (case l_Amount_floordiv => k_is)
    (case c_Amount_floordiv => k_is)
    (case k_Amount_floordiv => k_is)
    (case a_Amount_rfloordiv => k_is)
    (case i_Amount_rfloordiv => k_is)
    (case l_Amount_rfloordiv => k_is)
    (case c_Amount_rfloordiv => k_is)
    (case k_Amount_rfloordiv => k_is)
    (case a_Amount_neg => k_is)
    (case i_Amount_neg => k_is)
    (case l_Amount_neg => k_is)
    (case c_Amount_neg => k_is)
    (case k_Amount_neg => k_is)
    (case a_Amount_abs => k_is)
    (case i_Amount_abs => k_is)
    (case l_Amount_abs => k_is)
    (case c_Amount_abs => k_is)
    (case k_Amount_abs => k_is)
    (case a_Amount_repr => k_is)
    (case i_Amount_repr => k_is)
    (case l_Amount_repr => k_is)
    (case c_Amount_repr => k_is)
    (case k_Amount_repr => k_is)
    (case a_law_jar => k_is)
    (case l_law_jar => k_is)
    (case c_law_jar => k_is)
    (case k_law_jar => k_is)
    (case a_law_take => k_is)
    (case l_law_take => k_is)
    (case c_law_take => k_is)
    (case k_law_take => k_is)
    (case a_law_of => k_is)
    (case l_law_of => k_is)
    (case c_law_of => k_is)
    (case k_law_of => k_is)
    (case a_law_frac => k_is)
    (case l_law_frac => k_is)
    (case c_law_frac => k_is)
    (case k_law_frac => k_is)
    (case a_law_plus => k_is)
    (case l_law_plus => k_is)
    (case c_law_plus => k_is)
    (case k_law_plus => k_is)
    (case a_law_times => k_is)
    (case l_law_times => k_is)
    (case c_law_times => k_is)
    (case k_law_times => k_is)
    (case a_law_less => k_is)
    (case l_law_less => k_is)
    (case c_law_less => k_is)
    (case k_law_less => k_is)
    (case a_law_pair => k_is)
    (case l_law_pair => k_is)
    (case c_law_pair => k_is)
    (case k_law_pair => k_is)
    (case a_law_number => k_is)
    (case l_law_number => k_is)
    (case c_law_number => k_is)
    (case k_law_number => k_is)
    (case a_law_amount => k_is)
    (case l_law_amount => k_is)
    (case c_law_amount => k_is)
    (case k_law_amount => k_is)
    (case a_law_is_made => k_is)
    (case l_law_is_made => k_is)
    (case c_law_is_made => k_is)
    (case k_law_is_made => k_is)
    (case a_law_divides => k_is)
    (case l_law_divides => k_is)
    (case c_law_divides => k_is)
    (case k_law_divides => k_is)
    (case a_law_both_fine => k_is)
    (case l_law_both_fine => k_is)
    (case c_law_both_fine => k_is)
    (case k_law_both_fine => k_is)
    (case a_law_fine => k_is)
    (case l_law_fine => k_is)
    (case c_law_fine => k_is)
    (case k_law_fine => k_is)
    (case a_law => k_is)
    (case l_law => k_is)
    (case c_law => k_is)
    (case k_law => k_is)
    (case z_int => k_is)
    (case z_bool => k_is)
    (case z_isinstance => k_is)
    (case z_abs => k_is)
    (case z_len => k_is)
    (case z_range => k_is)
    (case z_max => k_is)
    (case z_min => k_is)
    (case z_all => k_is)
    (case z_repr => k_is)
    (case tpM => first | rfl | decide | kernel_rfl)
    (case opM => k_is)
    (case zsM => k_is)
    (case cnX => k_is)
    (case ctX => k_is)
    (case aC_MeterError => k_is)
    (case xL_MeterError => k_is)
    (case sa_MeterError => k_is)
    (case eC_MeterError => k_is)
    (case tC_MeterError => k_is)
    (case kC_MeterError => k_is)
    (case i_MeterError => k_is)
    (case m_MeterError => k_is)
    (case s_MeterError => first | ks_is | k_is)
    (case b_MeterError => k_is)
    (case v_MeterError => k_is)
    (case hg_MeterError => k_is)
    (case hk_MeterError => k_is)
    (case hd_MeterError => k_is)
    (case ha_MeterError => k_is)
    (case hm_MeterError => k_is)
    (case ss_MeterError => k_is)
    (case aC_NoQuotient => k_is)
    (case xL_NoQuotient => k_is)
    (case sa_NoQuotient => k_is)
    (case eC_NoQuotient => k_is)
    (case tC_NoQuotient => k_is)
    (case kC_NoQuotient => k_is)
    (case i_NoQuotient => k_is)
    (case m_NoQuotient => k_is)
    (case s_NoQuotient => first | ks_is | k_is)
    (case b_NoQuotient => k_is)
    (case v_NoQuotient => k_is)
    (case hg_NoQuotient => k_is)
    (case hk_NoQuotient => k_is)
    (case hd_NoQuotient => k_is)
    (case ha_NoQuotient => k_is)
    (case hm_NoQuotient => k_is)
    (case ss_NoQuotient => k_is)
    (case sfA => k_is)
    (case niA => k_is)
    (case pa_number => k_is)
    (case pg_number => k_is)
    (case pt_number => k_is)
    (case pr_number => k_is)
    (case pa_under => k_is)
    (case pg_under => k_is)
    (case pt_under => k_is)
    (case pr_under => k_is)
    (case l_Amount_number => k_is)
    (case c_Amount_number => k_is)
    (case k_Amount_number => k_is)
    (case l_Amount_under => k_is)
    (case c_Amount_under => k_is)
    (case k_Amount_under => k_is)
    (case lM => k_is)
    (case cM => k_is)
    (case kdM => k_is)
    (case vsM => first | rfl | decide | kernel_rfl)
    (case flM => first | rfl | decide | kernel_rfl)
    (case clM => k_is)
    (case cdDM => k_is)
    (case tyfM => k_is)
#print axioms PySem.Challenge.cw_whoseuse_k02_sums_products_and_quotients_holds
