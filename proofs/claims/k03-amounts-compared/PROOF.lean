import PyProof.Rows.All
import Wide.All
import OpenK.AllK
import Wide.FinOn
import HandS.ForMost
import HandS.ForExc
import HandS.Evl
import HandS.Wide
import HandS.Slots
import HandS.SlotsOwn
import HandS.Defaults
import HandS.IsInst
import HandS.Conv
import HandS.Flow
import PySem.Challenge.RW_whoseuse_k03_amounts_compared
set_option Elab.async false
set_option linter.all false
set_option maxRecDepth 100000
set_option maxHeartbeats 4000000
/-! Defs that lean on repr: what is known of the guards (no repr is under way) is handed from def to def. -/
namespace WU
open PySem PySem.Spec PyProof.Rows L2

/-- as FnOk, for callers around whom no repr is under way -/
structure FnG (P : Program) (w : World) (K : PySem.W.Frag) (mg : Str → Option Value) (base : Heap) (CX : CXT) (k : Nat) (f : Addr) (fd : FuncData) (ps : List Str) (sp : Sp) : Prop where
  len : ∀ vs H Q E, sp vs H Q E → vs.length = ps.length
  run : ∀ (A : Around) (outer : List Env) (s : Shared) (H : Hp) (args : Args) (us : List Value) (vs : List V) (Q : VK) (E : XK), Room k A → A.guards = some [] → Env0 P w K mg base A outer s H → BindsTo s fd args (ps.zip us) → Vals vs us → sp vs H Q E →
    codeAny (model P w) A (.call (.ref f) args) (CR CX outer P w H s Q E) s
section
variable {CX : CXT} {P : Program} {w : World} {K : PySem.W.Frag} {mg : Str → Option Value} {base : Heap} {k : Nat} {f : Addr} {fd : FuncData} {ps : List Str} {sp : Sp}
theorem FnG.of (F : FnOk P w K mg base CX k f fd ps sp) : FnG P w K mg base CX k f fd ps sp :=
  ⟨F.len, fun A outer s H args us vs Q E hr _ => F.run A outer s H args us vs Q E hr⟩
end
theorem deeper_guards {A : Around} {env : Env} : (A.deeper env).guards = A.guards := by
  first | rfl | simp [Around.deeper]
theorem fnG_of {CX : CXT} {P : Program} {w : World} {K : PySem.W.Frag} {mg : Str → Option Value} {base : Heap} {k : Nat} {f : Addr} {name qual : Str} {params : Arguments} {body : List Stmt} {scope : Scope} {dV kV doc pm cdv ct oc : Value} {an od : Option Addr}
    {osl : Array (Option Value)} {N ps : List Str} {sp : Sp} (lk : K.lookup f = some ⟨oc, od, .func (PySem.W.fnOf name qual params body scope dV kV doc pm an cdv ct), osl⟩) (hcd : PySem.W.codeIn K cdv qual = true) (S : FnScope N ps scope)
    (len : ∀ vs H Q E, sp vs H Q E → vs.length = ps.length)
    (hbody : ∀ (A : Around) (outer : List Env) (s : Shared) (H : Hp) (vs : List V) (Q : VK) (E : XK), Room k (A.deeper (envOfC qual scope s.heap.objs.size f cdv)) → (A.deeper (envOfC qual scope s.heap.objs.size f cdv)).guards = some [] → sp vs H Q E →
      ∃ t, PSs (cxOf CX P w K mg base N qual scope f cdv A outer s H E) body t ∧ t { nx := fun _ H' => Q .non H', rt := Q } (start N vs) H) :
    FnG P w K mg base CX (k + 1) f (PySem.W.fnOf name qual params body scope dV kV doc pm an cdv ct) ps sp := by
  refine ⟨len, fun A outer s H args us vs Q E hr hgd e0 hb r hsp => ?_⟩
  have hl := len _ _ _ _ hsp
  have KX : K.In s.heap := e0.mod.kin.keeps fun b o e => (e0.bs b o e).1
  have lim : s.heap.NoLimit := e0.mod.nolimit.keeps fun b o e => (e0.bs b o e).1
  have hkind : ∀ y ∈ ps.zip us, scope.names.lookup y.1 = some .local ∨ (scope.names.lookup y.1 = some .cell ∧ ((cellsFrom (s.heap.objs.size + 1) scope.names []).lookup y.1).isSome = true) := fun ⟨n, v⟩ hy => by
    rcases S.par n (List.of_mem_zip hy).1 with q | q
    · exact .inl q
    · exact .inr ⟨q, PySem.W.cellsFrom_some _ _ _ (.inl q)⟩
  refine codeAny_call_function hr.depth (KX _ _ lk) rfl S.co S.gen rfl (PySem.W.codeRec_of KX hcd) (hb _ _ _ _ ?_)
  refine wpAny_newFunctionEnv_cells S.kind hkind fun env he s1 x => ?_
  subst he
  refine ⟨lim.keeps x.toInCall.keep, codeAny_func ?_⟩
  obtain ⟨t, ht, hq⟩ := hbody A outer s H vs Q E (hr.deeper _) (deeper_guards.trans hgd) hsp
  have I : Inv (cxOf CX P w K mg base N qual scope f cdv A outer s H E) [] (start N vs) H s1 := inv_start S hr.hd e0 hl r x
  refine wpAny_mono (ht.run [] s1 (start N vs) H _ I hq) (fun fl s' hs => ?_) fun e s' hs => hs
  have fin : ∀ {σ' : L2.St} {H' : Hp} {v : V} {u : Value}, Inv (cxOf CX P w K mg base N qual scope f cdv A outer s H E) [] σ' H' s' → RelV v u → Q v H' → CE outer P w H s Q u s' :=
    fun {σ' H' v u} J rv q => ⟨v, H', J.os, J.bare, J.base, J.hok, rv, q⟩
  cases fl with
  | ret u =>
    obtain ⟨v, σ', H', J, rv, q⟩ := hs
    exact fin J rv q
  | next =>
    obtain ⟨σ', H', J, q⟩ := hs
    exact fin (v := V.non) (u := Value.none) J rfl q
  | brk =>
    obtain ⟨_, _, _, q⟩ := hs
    exact False.elim q
  | cont =>
    obtain ⟨_, _, _, q⟩ := hs
    exact False.elim q
section
variable {P : Program} {w : World} {K : PySem.W.Frag} {mg : Str → Option Value} {base : Heap}
theorem okG {x qual : Str} {st : Stmt} {f : Addr} {fd : FuncData} {N ps : List Str} {k : Nat} {sp : Sp} (F : L2.Fun K x qual st f fd) (S : FnScope N ps (defScope st)) (len : ∀ vs H Q E, sp vs H Q E → vs.length = ps.length)
    (hbody : ∀ (cdv : Value) (A : Around) (outer : List Env) (s : Shared) (H : Hp) (vs : List V) (Q : VK) (E : XK), Room k (A.deeper (envOfC qual (defScope st) s.heap.objs.size f cdv)) → (A.deeper (envOfC qual (defScope st) s.heap.objs.size f cdv)).guards = some [] → sp vs H Q E →
      ∃ t, PSs (cxOf CX0 P w K mg base N qual (defScope st) f cdv A outer s H E).nox (defBody st) t ∧ t { nx := fun _ H' => Q .non H', rt := Q } (start N vs) H) : FnG P w K mg base CX0 (k + 1) f fd ps sp := by
  obtain ⟨oc, od, kV, doc, pm, an, cdv, ct, osl, rfl, lk, hcd⟩ := F.ex
  refine fnG_of lk hcd S len fun A outer s H vs Q E hr hg hsp => ?_
  obtain ⟨t, h, q⟩ := hbody cdv A outer s H vs Q E hr hg hsp
  exact ⟨t, h.nox, q⟩
/-- .. a def that may raise -/
theorem okGX {x qual : Str} {st : Stmt} {f : Addr} {fd : FuncData} {N ps : List Str} {k : Nat} {sp : Sp} (F : L2.Fun K x qual st f fd) (S : FnScope N ps (defScope st)) (len : ∀ vs H Q E, sp vs H Q E → vs.length = ps.length)
    (hbody : ∀ (cdv : Value) (A : Around) (outer : List Env) (s : Shared) (H : Hp) (vs : List V) (Q : VK) (E : XK), Room k (A.deeper (envOfC qual (defScope st) s.heap.objs.size f cdv)) → (A.deeper (envOfC qual (defScope st) s.heap.objs.size f cdv)).guards = some [] → sp vs H Q E →
      ∃ t, PSs (cxOf (L2.CX P w) P w K mg base N qual (defScope st) f cdv A outer s H E) (defBody st) t ∧ t { nx := fun _ H' => Q .non H', rt := Q } (start N vs) H) : FnG P w K mg base (L2.CX P w) (k + 1) f fd ps sp := by
  obtain ⟨oc, od, kV, doc, pm, an, cdv, ct, osl, rfl, lk, hcd⟩ := F.ex
  exact fnG_of lk hcd S len fun A outer s H vs Q E hr hg hsp => hbody cdv A outer s H vs Q E hr hg hsp
end
section
variable {X : Cx} {CX : CXT} {k : Nat} {f C : Addr} {fd : FuncData} {ps : List Str} {sp : Sp} {dvs : List V} {ds : List Value} {E : XK} {x m : Str} {p pos apos : Pos} {e o : Expr} {es : List Expr} {ta : TE} {t : TA}
theorem run_fnG {pins : List (Addr × Obj)} {σ : L2.St} {H : Hp} {s : Shared} {Q : VK} {us : List Value} {vs : List V} (F : FnG X.prog X.w X.K X.mg X.base CX k f fd ps sp) (hr : Room k X.A) (hgd : X.A.guards = some []) (hb : Binds X.K fd ps ds) (hd : Vals dvs ds) (hx : Passes CX X E)
    (I : Inv X pins σ H s) (r : Vals vs us) (h : sp (vs ++ dvs) H Q E) : wpAny (model X.prog X.w) X.A (call (.ref f) us) (EP X pins σ Q) X.xe s := by
  have r2 : Vals (vs ++ dvs) (us ++ ds) := r.append hd
  have hl : (us ++ ds).length = ps.length := by rw [← r2.length]; exact F.len _ _ _ _ h
  refine wpAny_call (codeAny_mono (F.run X.A X.stack s H ⟨us, []⟩ (us ++ ds) (vs ++ dvs) Q E hr hgd I.env0 (hb s us I.kIn hl) r2 h) fun r s' hq => ?_)
  cases r with
  | error e => exact hx pins σ H s e s' I hq
  | ok fl =>
    cases fl with
    | ret u => exact I.after hq
    | next => exact False.elim hq
    | brk => exact False.elim hq
    | cont => exact False.elim hq
theorem pe_callG (F : FnG X.prog X.w X.K X.mg X.base CX k f fd ps sp) (hr : Room k X.A) (hgd : X.A.guards = some []) (hg : Gl X x) (hm : X.mg x = some (.ref f)) (hk : PySem.W.keepIn X.K (.ref f) = true) (hb : Binds X.K fd ps ds) (hd : Vals dvs ds) (hx : Passes CX X E)
    (ha : PA X (e :: es) t) (hdb : (x == ("__debug__" : Str)) = false := by decide) (he : starEach (e :: es) X.env = (false, eval e X.env) :: starEach es X.env := by rfl) (hpl : (backTo pos (starEach es X.env)).any (·.1) = false := by rfl) :
    PE X (.Call (.Name x p) (e :: es) [] pos) (tCall sp dvs E t) := by
  refine ⟨fun pins s σ H Q I h => ?_⟩
  refine wpAny_Call_Name_kw (ld_glob I hg hm ?_ hdb)
  refine PySem.W.callWith_K (h₀ := X.base) I.ok.mod.kin hk (thn (ha.run pos pins s σ H _ I h) fun us s1 ⟨vs, H1, I1, r, q⟩ => ⟨I1.kIn, ?_⟩) he hpl
  exact run_fnG F hr hgd hb hd hx I1 r q
end
/-! ### the end of a law row, for a law's def whose callers hold no guards -/
section
variable {P : Program} {w : World} {K : PySem.W.Frag} {mg mb : Str → Option Value} {CX : CXT} {k : Nat} {fa a : Addr} {fd : FuncData} {x : Str} {sp : Sp} {s1 : Shared} {vs : List Value} {ns : List Int}
/-- what is wanted of the law's call -/
abbrev LawEnd (s1 : Shared) (r : Result) (s' : Shared) : Prop := r = .ok (.ret (.bool true)) ∧ OldK s1.heap s'.heap ∧ s'.os = s1.os ∧ AllBare s'.gens
theorem law_core (KX : K.In s1.heap) (hns : s1.heap.Ns mainGlobals mg) (hb : s1.heap.Ns builtinsNs mb) (hbb : ∀ x : Str, x ≠ "__name__" → mb x = bootBuiltins x) (hlim : s1.heap.NoLimit) (hg : s1.gens = #[])
    (ha : s1.heap.get? a = some { cls := .type "list", data := .seq vs.toArray }) (hr : Room k callerA)
    (F : ∀ base : Heap, K.In base → base.Ns mainGlobals mg → FnG P w K mg base CX k fa fd [x] sp) (hbind : ∀ (s : Shared) (u : Value), BindsTo s fd ⟨[u], []⟩ [(x, u)])
    (hCX : ∀ H e s', CX [] H s1 (fun _ _ _ => False) e s' → False)
    (H : Hp) (hO : Only H) (hok : HOk P w H s1.heap) (hA : ∀ b, H b ≠ none → b = a) (hK : H a ≠ none → K.lookup a = none)
    (hsp : sp [.ref a] H (fun v _ => v = .bl true) fun _ _ _ => False) : codeAny (model P w) callerA (.call (.ref fa) ⟨[.ref a], []⟩) (LawEnd s1) s1 := by
  have free : ∀ {b : Addr} {o : Obj} {es : Array DictEntry} {ep : Nat}, s1.heap.get? b = some o → o.data = .dict es ep → H b = none := by
    intro b o es ep e d
    apply Classical.byContradiction
    intro q
    have e' := hA b q
    rw [e', ha] at e
    cases e
    cases d
  have nsK : ∀ {b : Addr} {m : Str → Option Value}, s1.heap.Ns b m → (hidT s1.heap H).Ns b m := by
    rintro b m ⟨o, es, ep, e, d, r⟩
    exact ⟨o, es, ep, hidT_get e (free e d), d, r⟩
  have hKb : K.In (hidT s1.heap H) := by
    intro b o e
    refine hidT_get (KX b o e) (Classical.byContradiction fun q => ?_)
    have e' := hA b q
    rw [e'] at q e
    rw [hK q] at e
    cases e
  obtain ⟨mc, h1, h2⟩ := hlim
  have e0 : Env0 P w K mg (hidT s1.heap H) callerA [] s1 H := {
    frames := rfl
    mod := ⟨hKb, nsK hns, ⟨mb, nsK hb, hbb⟩, ⟨mc, nsK h1, h2⟩⟩
    bs := fun b o e => of_hidT e
    bsz := Nat.le_of_eq (hidT_size _ _)
    funs := trivial
    frf := fun b hb => nomatch (show b ∈ ([] : List Addr) from hb)
    hok := hok
    bare := .of_eq hg }
  refine codeAny_mono ((F _ hKb (nsK hns)).run callerA [] s1 H ⟨[.ref a], []⟩ [.ref a] [.ref a] _ _ hr rfl e0 (hbind s1 (.ref a)) (.cons rfl .nil) hsp) fun r s' h => ?_
  match r, h with
  | .error e, h => exact (hCX H e s' h).elim
  | .ok .next, h => exact h.elim
  | .ok .brk, h => exact h.elim
  | .ok .cont, h => exact h.elim
  | .ok (.ret u), h =>
    obtain ⟨v, H', os, bare, un, hok', r', q⟩ := h
    cases (show v = .bl true from q)
    cases (show u = Value.bool true from r')
    refine ⟨rfl, OldK.of_keep fun b o e => ?_, os, bare⟩
    rcases hO b with z | ⟨ob, xs, z⟩
    · exact un.keep b o e z (fun z => nomatch (show b ∈ ([] : List Addr) from z)) (by simp)
    · have e1 := (hok b _ z).1
      have e2 := (hok' b _ (un.frzs b ob _ z)).1
      rw [e] at e1
      cases e1
      exact e2
theorem law_callG (KX : K.In s1.heap) (hns : s1.heap.Ns mainGlobals mg) (hb : s1.heap.Ns builtinsNs mb) (hbb : ∀ x : Str, x ≠ "__name__" → mb x = bootBuiltins x) (hlim : s1.heap.NoLimit) (hg : s1.gens = #[])
    (ha : s1.heap.get? a = some { cls := .type "list", data := .seq vs.toArray }) (hi : IntsAre vs ns) (hl : ns.length ≤ sizeLine) (hr : Room k callerA)
    (F : ∀ base : Heap, K.In base → base.Ns mainGlobals mg → FnG P w K mg base CX k fa fd [x] sp) (hbind : ∀ (s : Shared) (u : Value), BindsTo s fd ⟨[u], []⟩ [(x, u)])
    (hsp : ∀ H : Hp, Only H → SqL K H a (ns.map V.int) → sp [.ref a] H (fun v _ => v = .bl true) fun _ _ _ => False)
    (hCX : ∀ H e s', CX [] H s1 (fun _ _ _ => False) e s' → False) : codeAny (model P w) callerA (.call (.ref fa) ⟨[.ref a], []⟩) (LawEnd s1) s1 := by
  have rv := vals_ints hi
  have lv := hi.length
  have core := law_core KX hns hb hbb hlim hg ha hr F hbind hCX
  cases hk : K.lookup a with
  | some o =>
    have e := KX a o hk
    rw [ha] at e
    cases e
    refine core (fun _ => none) (fun _ => .inl rfl) (fun b u z => nomatch z) (fun b z => absurd rfl z) (fun z => absurd rfl z) (hsp _ (fun _ => .inl rfl) ?_)
    exact .inr ⟨_, vs.toArray, _, hk, rfl, rfl, rfl, by rw [List.size_toArray, lv]; exact hl, by simpa using rv⟩
  | none =>
    let ob : Obj := { cls := .type "list", data := .seq vs.toArray }
    let H : Hp := fun b => if b = a then some (.frz ob (.lst (ns.map V.int))) else none
    have hHa : H a = some (.frz ob (.lst (ns.map V.int))) := if_pos rfl
    have hHn : ∀ b, b ≠ a → H b = none := fun b q => if_neg q
    have hO : Only H := fun b => by
      by_cases q : b = a
      · rw [q]
        exact .inr ⟨_, _, hHa⟩
      · exact .inl (hHn b q)
    refine core H hO (fun b u z => ?_) (fun b z => Classical.byContradiction fun q => z (hHn b q)) (fun _ => hk) (hsp _ hO (.inl (.inr ⟨ob, hHa⟩)))
    by_cases q : b = a
    · subst q
      rw [hHa] at z
      cases z
      exact ⟨ha, by rw [List.length_map]; exact hl, vs, _, rv, ha⟩
    · rw [hHn b q] at z
      cases z
theorem walk_ofG {l : PySem.W.OpenLaw} {n : Nat} {q : Program} {loose : List Str} {XP : (Str → Option Value) → Heap → Prop} {YP : World → Heap → Prop} {d : DefRec} {K : Params → PySem.W.Frag} {CX : CXT} {sp : World → PySem.W.Frag → Sp}
    (hn : l.most = some n) (hn2 : n ≤ sizeLine) (hdf : d.params.defaults = []) (hr : Room k callerA) (hY : ∀ (w : World) (h : Heap), YP w h → (K w.params).In h)
    (F : ∀ (w : World) (mg : Str → Option Value) (fa : Addr) (h : Heap), (K w.params).In h → h.Ns mainGlobals mg → mg d.name = some (.ref fa) →
      ∃ fd : FuncData, (∀ (s : Shared) (u : Value), BindsTo s fd ⟨[u], []⟩ [(x, u)]) ∧ ∀ base : Heap, (K w.params).In base → base.Ns mainGlobals mg → FnG l.prog w (K w.params) mg base CX k fa fd [x] (sp w (K w.params)))
    (hsp : ∀ (w : World) (K : PySem.W.Frag) (H : Hp) (a : Addr) (ns : List Int), ns.length ≤ n → Only H → SqL K H a (ns.map V.int) → sp w K [.ref a] H (fun v _ => v = .bl true) fun _ _ _ => False)
    (hCX : ∀ (H : Hp) (s : Shared) (e : Value) (s' : Shared), CX [] H s (fun _ _ _ => False) e s' → False) :
    PySem.W.WalkO q loose XP YP l.row.toRowW d [] (fun f vs => PySem.call f vs) := by
  refine Att.attach_call hn hdf fun w s0 s1 mg mb fa o pm cd doc a vs ns G Y ho hd hcd hmg hobj hints hlen hg => ?_
  have KX := hY w _ Y
  obtain ⟨fd, hb, hF⟩ := F w mg fa _ KX G.T.g hmg
  exact law_callG KX G.T.g G.T.b G.T.builtins G.T.nolimit hg hobj hints (Nat.le_trans hlen hn2) hr hF hb (fun H hO hS => hsp w _ H a ns hlen hO hS) fun H e s' => hCX H s1 e s'
end
end WU

/-! repr of plain data: what a value and the heap stand for, as a PyData; its text. -/
namespace WU
open PySem PySem.Spec PyProof.Rows L2

mutual
inductive Rep (K : PySem.W.Frag) (H : Hp) : V → PyData → Prop
  | non : Rep K H .non .none
  | bl (b : Bool) : Rep K H (.bl b) (.bool b)
  | int (i : Int) : Rep K H (.int i) (.int i)
  | str (x : Str) : Rep K H (.str x) (.str x)
  | list {p : Addr} {xs : List V} {ds : List PyData} : SqL K H p xs → RepAll K H xs ds → Rep K H (.ref p) (.list ds)
  | tuple {p : Addr} {xs : List V} {ds : List PyData} : SqT K H p xs → RepAll K H xs ds → Rep K H (.ref p) (.tuple ds)
inductive RepAll (K : PySem.W.Frag) (H : Hp) : List V → List PyData → Prop
  | nil : RepAll K H [] []
  | cons {v : V} {d : PyData} {vs : List V} {ds : List PyData} : Rep K H v d → RepAll K H vs ds → RepAll K H (v :: vs) (d :: ds)
end
section
variable {X : Cx} {pins : List (Addr × Obj)} {σ : L2.St} {H : Hp} {s : Shared}
mutual
theorem Rep.reads (I : Inv X pins σ H s) : ∀ {v : V} {d : PyData} {u : Value}, Rep X.K H v d → RelV v u → ∃ as, Reads s.heap u d as
  | _, _, u, .non, r => by
    cases (show u = Value.none from r)
    exact ⟨_, .none⟩
  | _, _, u, .bl b, r => by
    cases (show u = Value.bool b from r)
    exact ⟨_, .bool b⟩
  | _, _, u, .int i, r => by
    obtain ⟨t, rfl⟩ := (show ∃ t, u = Value.int i t from r)
    exact ⟨_, .int i t⟩
  | _, _, u, .str x, r => by
    obtain ⟨t, rfl⟩ := (show ∃ t, u = Value.str x t from r)
    exact ⟨_, .str x t⟩
  | _, _, u, .list (p := p) h q, r => by
    cases (show u = Value.ref p from r)
    obtain ⟨its, rv, pl, _⟩ := I.list h
    obtain ⟨as, ra⟩ := RepAll.reads I q rv
    obtain ⟨o, n, ho, hc, hd, hs⟩ := pl
    exact ⟨_, .list ho hc hs ra⟩
  | _, _, u, .tuple (p := p) h q, r => by
    cases (show u = Value.ref p from r)
    obtain ⟨its, rv, pl, _⟩ := I.tuple h
    obtain ⟨as, ra⟩ := RepAll.reads I q rv
    obtain ⟨o, ho, hc, n, hs⟩ := pl
    exact ⟨_, .tuple ho hc hs ra⟩
theorem RepAll.reads (I : Inv X pins σ H s) : ∀ {vs : List V} {ds : List PyData} {us : List Value}, RepAll X.K H vs ds → Vals vs us → ∃ as, ReadsAll s.heap us ds as
  | _, _, _, .nil, .nil => ⟨_, .nil⟩
  | _, _, _, .cons a b, .cons r t => by
    obtain ⟨as, h1⟩ := Rep.reads I a r
    obtain ⟨bs, h2⟩ := RepAll.reads I b t
    exact ⟨_, .cons h1 h2⟩
end
end
mutual
theorem Rep.noDict {K : PySem.W.Frag} {H : Hp} : ∀ {v : V} {d : PyData}, Rep K H v d → d.hasDict = false
  | _, _, .non => by simp only [PyData.hasDict]
  | _, _, .bl _ => by simp only [PyData.hasDict]
  | _, _, .int _ => by simp only [PyData.hasDict]
  | _, _, .str _ => by simp only [PyData.hasDict]
  | _, _, .list _ q => by simp only [PyData.hasDict]; exact RepAll.noDict q
  | _, _, .tuple _ q => by simp only [PyData.hasDict]; exact RepAll.noDict q
theorem RepAll.noDict {K : PySem.W.Frag} {H : Hp} : ∀ {vs : List V} {ds : List PyData}, RepAll K H vs ds → PyData.hasDictAll ds = false
  | _, _, .nil => by simp only [PyData.hasDictAll]
  | _, _, .cons a b => by simp only [PyData.hasDictAll, Rep.noDict a, RepAll.noDict b, Bool.or_self]
end
mutual
theorem Rep.ext {K : PySem.W.Frag} {H H' : Hp} (e : Evl.Ex H H') : ∀ {v : V} {d : PyData}, Rep K H v d → Rep K H' v d
  | _, _, .non => .non
  | _, _, .bl b => .bl b
  | _, _, .int i => .int i
  | _, _, .str x => .str x
  | _, _, .list h q => .list (Evl.ex_l e h) (RepAll.ext e q)
  | _, _, .tuple h q => .tuple (Evl.ex_t e h) (RepAll.ext e q)
theorem RepAll.ext {K : PySem.W.Frag} {H H' : Hp} (e : Evl.Ex H H') : ∀ {vs : List V} {ds : List PyData}, RepAll K H vs ds → RepAll K H' vs ds
  | _, _, .nil => .nil
  | _, _, .cons a b => .cons (Rep.ext e a) (RepAll.ext e b)
end
/-- repr(x) of plain data -/
def rRepr (K : PySem.W.Frag) : List V → Hp → VK → Prop := fun xs H Q => ∃ v d, xs = [v] ∧ Rep K H v d ∧ d.showable = true ∧ d.depth ≤ 60 ∧ d.shown.length ≤ sizeLine ∧ Q (.str d.shown) H
theorem call_reprD {X : Cx} (hu : X.A.units + 64 < cLine) (hg : X.A.guards = some []) : CallR X (.builtin "repr") (rRepr X.K) := by
  intro pins s σ H xs us Q I r h
  obtain ⟨v, d, rfl, hd, hs, hdep, hz, q⟩ := h
  obtain ⟨u, rfl, ru⟩ := r.one
  obtain ⟨as, hr⟩ := hd.reads I ru
  have fin : ∀ (h' : Heap) (t : Tok) (tk : Nat), (∀ b o, s.heap.get? b = some o → h'.get? b = some o) → EP X pins σ Q (.str d.shown t) { s with heap := h', toks := tk } := fun h' t tk k => ⟨.str d.shown, H, I.kept k, ⟨t, rfl⟩, q⟩
  cases hd with
  | non =>
    cases (show u = Value.none from ru)
    exact P.repr_of_none (fin s.heap _ _ fun _ _ e => e)
  | bl b =>
    cases (show u = Value.bool b from ru)
    exact P.repr_of_bool (fin s.heap _ _ fun _ _ e => e)
  | int i =>
    obtain ⟨t, rfl⟩ := (show ∃ t, u = Value.int i t from ru)
    exact P.repr_of_int (of_decide_eq_true hs) (fin s.heap _ _ fun _ _ e => e)
  | str x =>
    obtain ⟨t, rfl⟩ := (show ∃ t, u = Value.str x t from ru)
    exact P.repr_of_str (fin s.heap _ _ fun _ _ e => e) hz
  | list h q' =>
    rename_i p xs ds
    cases (show u = Value.ref p from ru)
    exact repr_of_reads' hr hs (PyData.noDict_hsm (Rep.noDict (.list h q'))) hg (by omega) (fun _ _ e => e) (fun h' t tk k => fin h' t tk k) hz
  | tuple h q' =>
    rename_i p xs ds
    cases (show u = Value.ref p from ru)
    exact repr_of_reads' hr hs (PyData.noDict_hsm (Rep.noDict (.tuple h q'))) hg (by omega) (fun _ _ e => e) (fun h' t tk k => fin h' t tk k) hz
end WU

/-! Comparisons in which an instance of an own class stands on either side: its own def is asked, first or second; != by its own ==. -/
namespace WM
open PySem PySem.Spec PyProof.Rows PySem.W
section
variable {prog : Program} {w : World} {A : Around} {E : Value → Shared → Prop} {s : Shared} {K : Frag} {x C f : Addr} {ox : Obj} {od : Option Obj} {name : Str} {b tb : Value}
/-- a special name that is a built-in's slot -/
theorem ifBound_B {M : Model} {id : String} {args : List Value} {Q : Option Value → Shared → Prop} (X : K.In s.heap) (I : InstAt s.heap x ox C od) (hs : findIn K (.ref C) name = some (some (.builtin id)))
    (hb : bindSpecial (.builtin id) (.ref x) = pure (.builtin id, [.ref x]))
    (h : wpAny M A (call (.builtin id) (.ref x :: args)) (fun v => Q (some v)) E s) : wpAny M A (callSpecialIfBound? (.ref x) name args) Q E s := by
  simp only [callSpecialIfBound?, bindSpecialIfBound?]
  refine wpAny_holding (wpAny_bind (wpAny_bind (wpAny_bind (I.type.here ((looks_findIn X hs).here ?_)))))
  simp only [hb]
  refine wpAny_bind (wpAny_askSetting (wpAny_ite ?_))
  have fin : wpAny M A (call (.builtin id) ([.ref x] ++ args) >>= fun v => pure (some v)) Q E s := wpAny_bind (wpAny_mono h (fun v s' h' => wpAny_pure h') fun _ _ h' => h')
  split
  · exact wpAny_bind (wpAny_pure (wpAny_pure (by exact fin)))
  · exact wpAny_tryCatch (wpAny_bind (wpAny_pure (wpAny_pure (by exact fin))))
theorem check_slotK {M : Model} {id owner n : String} {rest : List Value} {Q : Unit → Shared → Prop} (hk : builtinKind id = some .slot) (hs : splitId id = some (owner, n))
    (ha : argsOk id ⟨.ref x :: rest, []⟩) (hm : mroIn K C (.type owner) = some true) (X : K.In s.heap) (I : InstAt s.heap x ox C od) (hq : Q () s) :
    wpAny M A (checkBuiltinCall id ⟨.ref x :: rest, []⟩) Q E s := by
  simp only [checkBuiltinCall, hk, hs]
  refine wpAny_bind ?_
  unfold isInstance
  refine wpAny_bind (I.type.here ((looks_mroIn X hm).here ?_))
  cases hsig : Manifest.signature? id with
  | none => exact wpAny_pure hq
  | some sig =>
    simp only [argsOk, hsig] at ha
    have h2 : Bind.checkArgs id sig ⟨.ref x :: rest, []⟩ = pure () := ha
    show wpAny M A (Bind.checkArgs id sig ⟨.ref x :: rest, []⟩) Q E _
    rw [h2]; exact wpAny_pure hq
theorem tryOwn {Q : Option Value → Shared → Prop} (X : K.In s.heap) (I : InstAt s.heap x ox C od) (hs : findIn K (.ref C) name = some (some (.ref f))) (hf : isFn K (.ref f) = true)
    (h : wpAny (model prog w) A (call (.ref f) [.ref x, b]) (PySem.W.CmpBack fun v => Q (some v)) E s) : wpAny (model prog w) A (tryCompare (.ref x) name b) Q E s := by
  unfold tryCompare
  refine wpAny_bind (ifBound_K X I hs hf (wpAny_mono h (fun v s' hv => ?_) fun _ _ e => e))
  cases v <;> first | exact hv.elim | exact wpAny_pure hv
theorem call_neOwn {Q : Value → Shared → Prop} (hu : A.units + 1 < cLine) (X : K.In s.heap) (I : InstAt s.heap x ox C od) (hs : findIn K (.ref C) "__eq__" = some (some (.ref f))) (hf : isFn K (.ref f) = true) (hm : mroIn K C (.type "object") = some true)
    (h : wpAny (model prog w) A.in1 (call (.ref f) [.ref x, b]) (fun v s' => ∃ k, v = .bool k ∧ Q (.bool (!k)) s') E s) : wpAny (model prog w) A (call (.builtin "object.__ne__") [.ref x, b]) Q E s := by
  refine wpAny_call (codeAny_call_builtin F.cmp_object.ne.plain F.cmpEntry_ne (check_slotK F.cmpKind_ne F.cmpSplit_ne (F.cmpArgs_ne _ _) hm X I ?_))
  unfold Builtin.«object.__ne__»
  have hu' : A.in1.units < cLine := hu
  repeat (first
    | with_reducible refine wpAny_cRoomFor hu' ?_
    | (refine wpAny_bind (m := callSpecialIfBound? (.ref x) (Str.ofString "__eq__") [b])
        (ifBound_K X I hs hf (wpAny_mono h (fun r s' hr => by
          obtain ⟨k, rfl, hq⟩ := hr
          repeat (first | exact hq | exact wpAny_pure hq | exact wpAny_truthy_bool hq | (refine wpAny_bind (m := truthy (.bool _)) (wpAny_truthy_bool ?_)) | wp_step)) fun _ _ e => e)))
    | wp_step)
theorem tryNe {Q : Option Value → Shared → Prop} (hu : A.units + 1 < cLine) (X : K.In s.heap) (I : InstAt s.heap x ox C od) (hn : findIn K (.ref C) "__ne__" = some (some (.builtin "object.__ne__"))) (hs : findIn K (.ref C) "__eq__" = some (some (.ref f))) (hf : isFn K (.ref f) = true) (hm : mroIn K C (.type "object") = some true)
    (h : wpAny (model prog w) A.in1 (call (.ref f) [.ref x, b]) (fun v s' => ∃ k, v = .bool k ∧ Q (some (.bool (!k))) s') E s) : wpAny (model prog w) A (tryCompare (.ref x) "__ne__" b) Q E s := by
  unfold tryCompare
  refine wpAny_bind (ifBound_B X I hn (F.cmp_object.ne.bind _) (call_neOwn hu X I hs hf hm (wpAny_mono h (fun v s' hv => ?_) fun _ _ e => e)))
  obtain ⟨k, e, q⟩ := hv
  exact ⟨k, e, wpAny_pure q⟩
/-- the left one answers -/
theorem rc_first {a : Value} {ta : Value} {op : CmpOp} {Q : Value → Shared → Prop} (hu : A.units < cLine) (h1 : oneThing? op a b = none) (ha : Looks (model prog w) s.heap (typeOf a) ta) (hb : Looks (model prog w) s.heap (typeOf b) tb)
    (hn : ta = tb ∨ Looks (model prog w) s.heap (isSubtype tb ta) false) (h : wpAny (model prog w) A (tryCompare a (cmpInfo op).2.1 b) (fun r s' => ∃ v, r = some v ∧ Q v s') E s) : wpAny (model prog w) A (richCompare op a b) Q E s := by
  rcases hi : cmpInfo op with ⟨sym, f1, r1⟩
  rw [hi] at h
  unfold richCompare
  simp only [h1, hi]
  refine wpAny_holding (wpAny_bind (wpAny_cRoomFor hu ?_))
  refine wpAny_bind (ha.here (wpAny_bind (hb.here ?_)))
  have fin : ∀ {k : Option Value → Sem Value}, (∀ v s', Q v s' → wpAny (model prog w) A (k (some v)) Q E s') → wpAny (model prog w) A (tryCompare a f1 b >>= k) Q E s := fun hk => wpAny_bind (wpAny_mono h (fun r s' z => by obtain ⟨v, rfl, q⟩ := z; exact hk v s' q) fun _ _ e => e)
  split
  · rename_i q
    rcases hn with e | e
    · rw [e] at q; simp at q
    · refine wpAny_bind (e.here ?_)
      simp only [Bool.false_eq_true, if_false]
      exact fin fun v s' q => wpAny_pure q
  · refine wpAny_bind (wpAny_pure ?_)
    simp only [Bool.false_eq_true, if_false]
    exact fin fun v s' q => wpAny_pure q
/-- the left one declines, the right one answers -/
theorem rc_second {a : Value} {ta : Value} {op : CmpOp} {Q : Value → Shared → Prop} (hu : A.units < cLine) (h1 : oneThing? op a b = none) (ha : Looks (model prog w) s.heap (typeOf a) ta) (hb : Looks (model prog w) s.heap (typeOf b) tb)
    (hn : ta = tb ∨ Looks (model prog w) s.heap (isSubtype tb ta) false) (h : wpAny (model prog w) A (tryCompare a (cmpInfo op).2.1 b) (fun r s' => r = none ∧ wpAny (model prog w) A (tryCompare b (cmpInfo op).2.2 a) (fun r s' => ∃ v, r = some v ∧ Q v s') E s') E s) : wpAny (model prog w) A (richCompare op a b) Q E s := by
  rcases hi : cmpInfo op with ⟨sym, f1, r1⟩
  rw [hi] at h
  unfold richCompare
  simp only [h1, hi]
  refine wpAny_holding (wpAny_bind (wpAny_cRoomFor hu ?_))
  refine wpAny_bind (ha.here (wpAny_bind (hb.here ?_)))
  split
  · rename_i q
    rcases hn with e | e
    · rw [e] at q; simp at q
    · refine wpAny_bind (e.here ?_)
      simp only [Bool.false_eq_true, if_false, Bool.not_false, if_true]
      refine wpAny_bind (wpAny_mono h (fun r s' z => ?_) fun _ _ e => e)
      obtain ⟨rfl, q⟩ := z
      refine wpAny_bind (wpAny_mono q (fun r s' z => ?_) fun _ _ e => e)
      obtain ⟨v, rfl, q⟩ := z
      exact wpAny_pure q
  · refine wpAny_bind (wpAny_pure ?_)
    simp only [Bool.false_eq_true, if_false, Bool.not_false, if_true]
    refine wpAny_bind (wpAny_mono h (fun r s' z => ?_) fun _ _ e => e)
    obtain ⟨rfl, q⟩ := z
    refine wpAny_bind (wpAny_mono q (fun r s' z => ?_) fun _ _ e => e)
    obtain ⟨v, rfl, q⟩ := z
    exact wpAny_pure q
end
end WM

/-! printed by gen_dc.py: int, bool, None, text, list, tuple, dict decline a comparison with an instance of an own class. -/
namespace WM
open PySem PySem.Spec PyProof.Rows PySem.W
open AutoSeq1 (wpAny_loadPart')
open MeetsSeq MeetsSeq2 MeetsSeq3 SeqRoads2
theorem dec_int_eq (b : Int) (u : Tok) (l C dx : Addr) (sl : Array (Option Value)) :
    Meets (Builtin.«int.__eq__» ⟨[.int b u, .ref l], []⟩) (fun _ R s => s.heap.get? l = some { instObj C dx with slots := sl } ∧ R (.ok (.ret .notImplemented)) s) :=
  .of_wp fun prog w A R s h => by obtain ⟨hp, g, d, tk, os⟩ := s; obtain ⟨hl, h⟩ := h; wp_walk using wpAny_loadPart' hl, wpAny_load hl; exact ⟨_, rfl, h⟩
theorem dec_int_ne (b : Int) (u : Tok) (l C dx : Addr) (sl : Array (Option Value)) :
    Meets (Builtin.«int.__ne__» ⟨[.int b u, .ref l], []⟩) (fun _ R s => s.heap.get? l = some { instObj C dx with slots := sl } ∧ R (.ok (.ret .notImplemented)) s) :=
  .of_wp fun prog w A R s h => by obtain ⟨hp, g, d, tk, os⟩ := s; obtain ⟨hl, h⟩ := h; wp_walk using wpAny_loadPart' hl, wpAny_load hl; exact ⟨_, rfl, h⟩
theorem dec_int_lt (b : Int) (u : Tok) (l C dx : Addr) (sl : Array (Option Value)) :
    Meets (Builtin.«int.__lt__» ⟨[.int b u, .ref l], []⟩) (fun _ R s => s.heap.get? l = some { instObj C dx with slots := sl } ∧ R (.ok (.ret .notImplemented)) s) :=
  .of_wp fun prog w A R s h => by obtain ⟨hp, g, d, tk, os⟩ := s; obtain ⟨hl, h⟩ := h; wp_walk using wpAny_loadPart' hl, wpAny_load hl; exact ⟨_, rfl, h⟩
theorem dec_int_le (b : Int) (u : Tok) (l C dx : Addr) (sl : Array (Option Value)) :
    Meets (Builtin.«int.__le__» ⟨[.int b u, .ref l], []⟩) (fun _ R s => s.heap.get? l = some { instObj C dx with slots := sl } ∧ R (.ok (.ret .notImplemented)) s) :=
  .of_wp fun prog w A R s h => by obtain ⟨hp, g, d, tk, os⟩ := s; obtain ⟨hl, h⟩ := h; wp_walk using wpAny_loadPart' hl, wpAny_load hl; exact ⟨_, rfl, h⟩
theorem dec_int_gt (b : Int) (u : Tok) (l C dx : Addr) (sl : Array (Option Value)) :
    Meets (Builtin.«int.__gt__» ⟨[.int b u, .ref l], []⟩) (fun _ R s => s.heap.get? l = some { instObj C dx with slots := sl } ∧ R (.ok (.ret .notImplemented)) s) :=
  .of_wp fun prog w A R s h => by obtain ⟨hp, g, d, tk, os⟩ := s; obtain ⟨hl, h⟩ := h; wp_walk using wpAny_loadPart' hl, wpAny_load hl; exact ⟨_, rfl, h⟩
theorem dec_int_ge (b : Int) (u : Tok) (l C dx : Addr) (sl : Array (Option Value)) :
    Meets (Builtin.«int.__ge__» ⟨[.int b u, .ref l], []⟩) (fun _ R s => s.heap.get? l = some { instObj C dx with slots := sl } ∧ R (.ok (.ret .notImplemented)) s) :=
  .of_wp fun prog w A R s h => by obtain ⟨hp, g, d, tk, os⟩ := s; obtain ⟨hl, h⟩ := h; wp_walk using wpAny_loadPart' hl, wpAny_load hl; exact ⟨_, rfl, h⟩
theorem dec_bool_eq (b : Bool) (l C dx : Addr) (sl : Array (Option Value)) :
    Meets (Builtin.«int.__eq__» ⟨[.bool b, .ref l], []⟩) (fun _ R s => s.heap.get? l = some { instObj C dx with slots := sl } ∧ R (.ok (.ret .notImplemented)) s) :=
  .of_wp fun prog w A R s h => by obtain ⟨hp, g, d, tk, os⟩ := s; obtain ⟨hl, h⟩ := h; wp_walk using wpAny_loadPart' hl, wpAny_load hl; exact ⟨_, rfl, h⟩
theorem dec_str_eq (b : Str) (u : Tok) (l C dx : Addr) (sl : Array (Option Value)) :
    Meets (Builtin.«str.__eq__» ⟨[.str b u, .ref l], []⟩) (fun _ R s => s.heap.get? l = some { instObj C dx with slots := sl } ∧ R (.ok (.ret .notImplemented)) s) :=
  .of_wp fun prog w A R s h => by obtain ⟨hp, g, d, tk, os⟩ := s; obtain ⟨hl, h⟩ := h; wp_walk using wpAny_loadPart' hl, wpAny_load hl; exact ⟨_, rfl, h⟩
theorem dec_none_eq (l : Addr) : Meets (Builtin.«NoneType.__eq__» ⟨[.none, .ref l], []⟩) (fun _ R s => R (.ok (.ret .notImplemented)) s) :=
  .of_wp fun prog w A R s h => by obtain ⟨hp, g, d, tk, os⟩ := s; wp_walk; exact ⟨_, rfl, h⟩
theorem dec_list_eq (q : Addr) (items : Array Value) (n : Nat) (dd : Option Addr) (sl2 : Array (Option Value)) (l C dx : Addr) (sl : Array (Option Value)) (K : Frag) (hm : mroIn K C (.type "list") = some false) :
    Meets (Builtin.«list.__eq__» ⟨[.ref q, .ref l], []⟩) (fun _ R s => K.In s.heap ∧ s.heap.get? q = some { cls := .type "list", dict := dd, data := .seq items n, slots := sl2 } ∧ s.heap.get? l = some { instObj C dx with slots := sl } ∧ R (.ok (.ret .notImplemented)) s) :=
  .of_wp fun prog w A R s h => by obtain ⟨hp, g, d, tk, os⟩ := s; obtain ⟨X, hq, hl, h⟩ := h; wp_walk using wpAny_loadPart' hq, wpAny_load hq, wpAny_loadPart' hl, wpAny_load hl, (looks_mroIn X hm).here; exact ⟨_, rfl, h⟩
theorem dec_tuple_eq (q : Addr) (items : Array Value) (n : Nat) (dd : Option Addr) (sl2 : Array (Option Value)) (l C dx : Addr) (sl : Array (Option Value)) (K : Frag) (hm : mroIn K C (.type "tuple") = some false) :
    Meets (Builtin.«tuple.__eq__» ⟨[.ref q, .ref l], []⟩) (fun _ R s => K.In s.heap ∧ s.heap.get? q = some { cls := .type "tuple", dict := dd, data := .seq items n, slots := sl2 } ∧ s.heap.get? l = some { instObj C dx with slots := sl } ∧ R (.ok (.ret .notImplemented)) s) :=
  .of_wp fun prog w A R s h => by obtain ⟨hp, g, d, tk, os⟩ := s; obtain ⟨X, hq, hl, h⟩ := h; wp_walk using wpAny_loadPart' hq, wpAny_load hq, wpAny_loadPart' hl, wpAny_load hl, (looks_mroIn X hm).here; exact ⟨_, rfl, h⟩
theorem dec_dict_eq (q : Addr) (es : Array DictEntry) (n : Nat) (dd : Option Addr) (sl2 : Array (Option Value)) (l C dx : Addr) (sl : Array (Option Value)) (K : Frag) (hm : mroIn K C (.type "dict") = some false) :
    Meets (Builtin.«dict.__eq__» ⟨[.ref q, .ref l], []⟩) (fun _ R s => K.In s.heap ∧ s.heap.get? q = some { cls := .type "dict", dict := dd, data := .dict es n, slots := sl2 } ∧ s.heap.get? l = some { instObj C dx with slots := sl } ∧ R (.ok (.ret .notImplemented)) s) :=
  .of_wp fun prog w A R s h => by obtain ⟨hp, g, d, tk, os⟩ := s; obtain ⟨X, hq, hl, h⟩ := h; wp_walk using wpAny_loadPart' hq, wpAny_load hq, wpAny_loadPart' hl, wpAny_load hl, (looks_mroIn X hm).here; exact ⟨_, rfl, h⟩
theorem dec_bool_ne (b : Bool) (l C dx : Addr) (sl : Array (Option Value)) :
    Meets (Builtin.«int.__ne__» ⟨[.bool b, .ref l], []⟩) (fun _ R s => s.heap.get? l = some { instObj C dx with slots := sl } ∧ R (.ok (.ret .notImplemented)) s) :=
  .of_wp fun prog w A R s h => by obtain ⟨hp, g, d, tk, os⟩ := s; obtain ⟨hl, h⟩ := h; wp_walk using wpAny_loadPart' hl, wpAny_load hl; exact ⟨_, rfl, h⟩
theorem dec_str_ne (b : Str) (u : Tok) (l C dx : Addr) (sl : Array (Option Value)) :
    Meets (Builtin.«str.__ne__» ⟨[.str b u, .ref l], []⟩) (fun _ R s => s.heap.get? l = some { instObj C dx with slots := sl } ∧ R (.ok (.ret .notImplemented)) s) :=
  .of_wp fun prog w A R s h => by obtain ⟨hp, g, d, tk, os⟩ := s; obtain ⟨hl, h⟩ := h; wp_walk using wpAny_loadPart' hl, wpAny_load hl; exact ⟨_, rfl, h⟩
theorem dec_none_ne (l : Addr) : Meets (Builtin.«NoneType.__ne__» ⟨[.none, .ref l], []⟩) (fun _ R s => R (.ok (.ret .notImplemented)) s) :=
  .of_wp fun prog w A R s h => by obtain ⟨hp, g, d, tk, os⟩ := s; wp_walk; exact ⟨_, rfl, h⟩
theorem dec_list_ne (q : Addr) (items : Array Value) (n : Nat) (dd : Option Addr) (sl2 : Array (Option Value)) (l C dx : Addr) (sl : Array (Option Value)) (K : Frag) (hm : mroIn K C (.type "list") = some false) :
    Meets (Builtin.«list.__ne__» ⟨[.ref q, .ref l], []⟩) (fun _ R s => K.In s.heap ∧ s.heap.get? q = some { cls := .type "list", dict := dd, data := .seq items n, slots := sl2 } ∧ s.heap.get? l = some { instObj C dx with slots := sl } ∧ R (.ok (.ret .notImplemented)) s) :=
  .of_wp fun prog w A R s h => by obtain ⟨hp, g, d, tk, os⟩ := s; obtain ⟨X, hq, hl, h⟩ := h; wp_walk using wpAny_loadPart' hq, wpAny_load hq, wpAny_loadPart' hl, wpAny_load hl, (looks_mroIn X hm).here; exact ⟨_, rfl, h⟩
theorem dec_tuple_ne (q : Addr) (items : Array Value) (n : Nat) (dd : Option Addr) (sl2 : Array (Option Value)) (l C dx : Addr) (sl : Array (Option Value)) (K : Frag) (hm : mroIn K C (.type "tuple") = some false) :
    Meets (Builtin.«tuple.__ne__» ⟨[.ref q, .ref l], []⟩) (fun _ R s => K.In s.heap ∧ s.heap.get? q = some { cls := .type "tuple", dict := dd, data := .seq items n, slots := sl2 } ∧ s.heap.get? l = some { instObj C dx with slots := sl } ∧ R (.ok (.ret .notImplemented)) s) :=
  .of_wp fun prog w A R s h => by obtain ⟨hp, g, d, tk, os⟩ := s; obtain ⟨X, hq, hl, h⟩ := h; wp_walk using wpAny_loadPart' hq, wpAny_load hq, wpAny_loadPart' hl, wpAny_load hl, (looks_mroIn X hm).here; exact ⟨_, rfl, h⟩
theorem dec_dict_ne (q : Addr) (es : Array DictEntry) (n : Nat) (dd : Option Addr) (sl2 : Array (Option Value)) (l C dx : Addr) (sl : Array (Option Value)) (K : Frag) (hm : mroIn K C (.type "dict") = some false) :
    Meets (Builtin.«dict.__ne__» ⟨[.ref q, .ref l], []⟩) (fun _ R s => K.In s.heap ∧ s.heap.get? q = some { cls := .type "dict", dict := dd, data := .dict es n, slots := sl2 } ∧ s.heap.get? l = some { instObj C dx with slots := sl } ∧ R (.ok (.ret .notImplemented)) s) :=
  .of_wp fun prog w A R s h => by obtain ⟨hp, g, d, tk, os⟩ := s; obtain ⟨X, hq, hl, h⟩ := h; wp_walk using wpAny_loadPart' hq, wpAny_load hq, wpAny_loadPart' hl, wpAny_load hl, (looks_mroIn X hm).here; exact ⟨_, rfl, h⟩
end WM

/-! printed by gen_op.py: the layer's rules: isinstance of any value; comparisons with an instance of an own slotted class on either side. -/
namespace WU
open PySem PySem.Spec PyProof.Rows L2 SlX
/-- a value's type: a built-in one's or that of an instance with slots -/
inductive TyW (K : PySem.W.Frag) (H : Hp) : V → Value → Prop where
  | x {v : V} {t : Value} (h : TyX K H v t) : TyW K H v t
  | sl {a C dx : Addr} {vs : List (Option V)} (h : Slt H a C dx vs) (c : SCls K C) (i : SIsi K C) : TyW K H (.ref a) (.ref C)
theorem TyW.b {K : PySem.W.Frag} {H : Hp} {v : V} {t : Value} (h : TyOf K H v t) : TyW K H v t := .x (.base h)
section
variable {X : Cx} {pins : List (Addr × Obj)} {σ : L2.St} {H : Hp} {s : Shared}
theorem kit_ofW {x : V} {u t : Value} (I : Inv X pins σ H s) (rx : RelV x u) (ty : TyW X.K H x t) : ∃ P : Heap → Prop, PySem.W.KitX X.K u t P ∧ P s.heap ∧ u ≠ .builtin "__main__.__loader__#opaque" := by
  cases ty with
  | x h => exact kit_of I rx h
  | sl h c i =>
    rename_i a C dx vs
    cases (show u = Value.ref a from rx)
    obtain ⟨sl, od, _, J, _⟩ := slt_inst I h
    exact ⟨_, OwX.kitx_slt c.ic (c.get _) i.ca i.cn i.ct i.cm, J, fun z => nomatch z⟩
end
/-- isinstance(x, c), x any value -/
def rIsW (K : PySem.W.Frag) : List V → Hp → VK → Prop := fun xs H Q => ∃ (x c : V) (t u : Value) (b : Bool), xs = [x, c] ∧ ClsV c u ∧ TyW K H x t ∧ PySem.W.kitOne K t u = some b ∧ Q (.bl b) H
section
variable {X : Cx}
theorem call_isW : CallR X (.builtin "isinstance") (rIsW X.K) := by
  intro pins s σ H xs us Q I r h
  obtain ⟨x, c, t, u, b, rfl, k, ty, e, q⟩ := h
  obtain ⟨u1, u2, rfl, r1, r2⟩ := vals2 r
  have e2 := k.eq r2
  subst e2
  obtain ⟨P, Z, p, hx⟩ := kit_ofW I r1 ty
  exact PySem.W.kia_one Z I.kIn p e hx fun tk => ⟨.bl b, H, I.tok tk, rfl, q⟩
end
/-- what a comparison asks of an own class with slots -/
structure OwnC (K : PySem.W.Frag) (C : Addr) : Prop where
  cl : SCls K C
  is : SIsi K C
  ne : PySem.W.findIn K (.ref C) "__ne__" = some (some (.builtin "object.__ne__"))
  m_int : PySem.W.mroIn K C (.type "int") = some false
  m_bool : PySem.W.mroIn K C (.type "bool") = some false
  m_none : PySem.W.mroIn K C (.type "NoneType") = some false
  m_str : PySem.W.mroIn K C (.type "str") = some false
  m_list : PySem.W.mroIn K C (.type "list") = some false
  m_tuple : PySem.W.mroIn K C (.type "tuple") = some false
  m_dict : PySem.W.mroIn K C (.type "dict") = some false
/-- x op y by x's own def at g: x an instance of C, y of a type t that is not below C -/
def rFst (K : PySem.W.Frag) (C : Addr) (sp : Sp) (E : XK) : R2 := fun x y H Q => ∃ a dx vs t, x = .ref a ∧ Slt H a C dx vs ∧ TyW K H y t ∧ PySem.W.notFirst K C t = true ∧ sp [x, y] H Q E
/-- x != y by x's own == -/
def rFstN (K : PySem.W.Frag) (C : Addr) (sp : Sp) (E : XK) : R2 := fun x y H Q => ∃ a dx vs t, x = .ref a ∧ Slt H a C dx vs ∧ TyW K H y t ∧ PySem.W.notFirst K C t = true ∧ sp [x, y] H (fun z H' => ∃ k, z = .bl k ∧ Q (.bl (!k)) H') E
/-- the kinds that decline == and != -/
inductive Left (H : Hp) : V → Prop where
  | non : Left H .non
  | bl (b : Bool) : Left H (.bl b)
  | int (i : Int) : Left H (.int i)
  | str (z : Str) : Left H (.str z)
  | lst {p : Addr} {xs : List V} (h : H p = some (.lst xs)) : Left H (.ref p)
  | tup {p : Addr} {xs : List V} (h : H p = some (.tup xs)) : Left H (.ref p)
  | dK {p : Addr} {kvs : List (Key × V)} (h : H p = some (.dK kvs)) : Left H (.ref p)
/-- x op y by y's own def: x declines -/
def rSnd (C : Addr) (sp : Sp) (E : XK) : R2 := fun x y H Q => ∃ b dx vs, y = .ref b ∧ Slt H b C dx vs ∧ Left H x ∧ sp [y, x] H Q E
def rSndI (C : Addr) (sp : Sp) (E : XK) : R2 := fun x y H Q => ∃ b dx vs i, y = .ref b ∧ Slt H b C dx vs ∧ x = .int i ∧ sp [y, x] H Q E
def rSndN (C : Addr) (sp : Sp) (E : XK) : R2 := fun x y H Q => ∃ b dx vs, y = .ref b ∧ Slt H b C dx vs ∧ Left H x ∧ sp [y, x] H (fun z H' => ∃ k, z = .bl k ∧ Q (.bl (!k)) H') E
section
variable {X : Cx} {CX : CXT} {pins : List (Addr × Obj)} {σ : L2.St} {H : Hp} {s : Shared} {a C dx g : Addr} {vs : List (Option V)} {n : Nat} {sp : Sp} {E : XK}
theorem first_looks {K : PySem.W.Frag} {M : Model} {h : Heap} {t : Value} (x : K.In h) (hn : PySem.W.notFirst K C t = true) : Value.ref C = t ∨ PySem.W.Looks M h (isSubtype t (.ref C)) false := by
  rcases Bool.or_eq_true_iff.mp hn with e | e
  · exact .inl (beq_iff_eq.mp e).symm
  · exact .inr (PySem.W.looks_subIn x (beq_iff_eq.mp e))
theorem op_fst {op : CmpOp} (hop : ∀ a b, compareOp op a b = richCompare op a b) (hs : PySem.W.findIn X.K (.ref C) (cmpInfo op).2.1 = some (some (.ref g))) (hf : PySem.W.isFn X.K (.ref g) = true) (F : FnR X.prog X.w X.K X.mg X.base CX n g sp)
    (hr : Room n X.A) (hx : Passes CX X E) : OpR X (compareOp op) (rFst X.K C sp E) := by
  intro pins s σ H x y v u Q I rx ry h
  obtain ⟨a, dx, vs, t, rfl, ha, ty, hn, q⟩ := h
  cases (show v = Value.ref a from rx)
  obtain ⟨sl, od, _, J, _⟩ := slt_inst I ha
  obtain ⟨P, Z, p, _⟩ := kit_ofW I ry ty
  rw [hop]
  refine WM.rc_first hr.units0 (PySem.oneThing_ref ..) J.type (Z.ty _ _ I.kIn p) (first_looks I.kIn hn) (WM.tryOwn I.kIn J hs hf ?_)
  refine wpAny_mono (wpAny_call (run_fnR (us := [.ref a, u]) (vs := [.ref a, y]) F hr hx I (.cons rfl (.cons ry .nil)) q)) (fun w s' z => ?_) fun _ _ x => x
  obtain ⟨z', H', I', rz, qz⟩ := z
  exact cmpback rz ⟨w, rfl, z', H', I', rz, qz⟩
theorem op_fstN (c : OwnC X.K C) (hs : PySem.W.findIn X.K (.ref C) "__eq__" = some (some (.ref g))) (hf : PySem.W.isFn X.K (.ref g) = true) (F : FnR X.prog X.w X.K X.mg X.base CX n g sp)
    (hr : Room (n + 1) X.A) (hx : Passes CX X E) : OpR X (compareOp .NotEq) (rFstN X.K C sp E) := by
  intro pins s σ H x y v u Q I rx ry h
  obtain ⟨a, dx, vs, t, rfl, ha, ty, hn, q⟩ := h
  cases (show v = Value.ref a from rx)
  obtain ⟨sl, od, _, J, _⟩ := slt_inst I ha
  obtain ⟨P, Z, p, _⟩ := kit_ofW I ry ty
  show wpAny _ _ (richCompare .NotEq _ _) _ _ _
  refine WM.rc_first hr.units0 (PySem.oneThing_ref ..) J.type (Z.ty _ _ I.kIn p) (first_looks I.kIn hn) (WM.tryNe (by have := hr.units; omega) I.kIn J c.ne hs hf c.is.cm ?_)
  refine wpAny_mono (wpAny_call (run_at (us := [.ref a, u]) (ws := [.ref a, y]) F hr.in1 I.env0.in1 hx I (.cons rfl (.cons ry .nil)) q)) (fun w s' z => ?_) fun _ _ x => x
  obtain ⟨z', H', I', rz, k, rfl, qz⟩ := z
  cases (show w = Value.bool k from rz)
  exact ⟨k, rfl, _, rfl, .bl (!k), H', I', rfl, qz⟩
theorem TypeIs_looks {M : Model} {u : Value} {T : String} (h : s.TypeIs u T) : PySem.W.Looks M s.heap (typeOf u) (.type T) := by
  cases u with
  | ref p =>
    obtain ⟨o, ho, hc⟩ := h
    exact hc ▸ (PySem.W.Looks.ld ho).andThen .now
  | _ => exact PySem.W.Looks.of_pure (by first | exact h | (cases h; rfl) | simpa [Shared.TypeIs] using h)
theorem decl_eq {x : V} {u : Value} {Q : Option Value → Shared → Prop} {A : Around} {E : Value → Shared → Prop} (I : Inv X pins σ H s) (c : OwnC X.K C) (h : Slt H a C dx vs) (l : Left H x) (rx : RelV x u) (q : Q none s) :
    ∃ T, s.TypeIs u T ∧ PySem.W.mroIn X.K C (.type T) = some false ∧ wpAny (model X.prog X.w) A (tryCompare u (cmpInfo .Eq).2.1 (.ref a)) Q E s := by
  obtain ⟨ne, sl, mA, e0, _, _, _⟩ := slt_at I h
  cases l with
  | non =>
    cases (show u = Value.none from rx)
    exact ⟨"NoneType", rfl, c.m_none, wpAny_tryCompare_declines rfl F.slot_NoneType_eq (call_meets F.slot_NoneType_eq rfl F.entry_NoneType_eq (F.args_NoneType_eq_2 _ _) (WM.dec_none_eq a) ⟨rfl, q⟩)⟩
  | bl b =>
    cases (show u = Value.bool b from rx)
    exact ⟨"bool", rfl, c.m_bool, wpAny_tryCompare_declines rfl F.slot_bool_eq (call_meets F.slot_bool_eq rfl F.entry_int_eq (F.args_int_eq_2 _ _) (WM.dec_bool_eq b a C dx sl) ⟨e0, rfl, q⟩)⟩
  | int i =>
    obtain ⟨t, rfl⟩ := (show ∃ t, u = Value.int i t from rx)
    exact ⟨"int", typeIs_int s i t, c.m_int, wpAny_tryCompare_declines (typeIs_int s i t) F.slot_int_eq (call_meets F.slot_int_eq (typeIs_int s i t) F.entry_int_eq (F.args_int_eq_2 _ _) (WM.dec_int_eq i t a C dx sl) ⟨e0, rfl, q⟩)⟩
  | str z =>
    obtain ⟨t, rfl⟩ := (show ∃ t, u = Value.str z t from rx)
    exact ⟨"str", typeIs_str s z t, c.m_str, wpAny_tryCompare_declines (typeIs_str s z t) F.slot_str_eq (call_meets F.slot_str_eq (typeIs_str s z t) F.entry_str_eq (F.args_str_eq_2 _ _) (WM.dec_str_eq z t a C dx sl) ⟨e0, rfl, q⟩)⟩
  | lst hp =>
    rename_i p xs
    cases (show u = Value.ref p from rx)
    obtain ⟨_, its, n, _, ho⟩ := (show ObjOk X.prog X.w H s.heap p (.lst xs) from I.hok p _ hp)
    exact ⟨"list", ⟨_, ho, rfl⟩, c.m_list, wpAny_tryCompare_declines ⟨_, ho, rfl⟩ F.slot_list_eq (call_meets F.slot_list_eq ⟨_, ho, rfl⟩ F.entry_list_eq (F.args_list_eq_2 _ _) (WM.dec_list_eq p its.toArray n none #[] a C dx sl X.K c.m_list) ⟨I.kIn, ho, e0, rfl, q⟩)⟩
  | tup hp =>
    rename_i p xs
    cases (show u = Value.ref p from rx)
    obtain ⟨_, its, _, ⟨oc, odd, odt, osl⟩, ho, hc, n, hd⟩ := (show ObjOk X.prog X.w H s.heap p (.tup xs) from I.hok p _ hp)
    simp only at hc hd
    subst hc hd
    exact ⟨"tuple", ⟨_, ho, rfl⟩, c.m_tuple, wpAny_tryCompare_declines ⟨_, ho, rfl⟩ F.slot_tuple_eq (call_meets F.slot_tuple_eq ⟨_, ho, rfl⟩ F.entry_tuple_eq (F.args_tuple_eq_2 _ _) (WM.dec_tuple_eq p its.toArray n odd osl a C dx sl X.K c.m_tuple) ⟨I.kIn, ho, e0, rfl, q⟩)⟩
  | dK hp =>
    rename_i p kvs
    cases (show u = Value.ref p from rx)
    obtain ⟨_, _, _, _, ⟨oc, odd, odt, osl⟩, es, ep, ho, hc, hd, _⟩ := (show ObjOk X.prog X.w H s.heap p (.dK kvs) from I.hok p _ hp)
    obtain ⟨hc, _⟩ := hc
    simp only at hc hd
    subst hc hd
    exact ⟨"dict", ⟨_, ho, rfl⟩, c.m_dict, wpAny_tryCompare_declines ⟨_, ho, rfl⟩ F.slot_dict_eq (call_meets F.slot_dict_eq ⟨_, ho, rfl⟩ F.entry_dict_eq (F.args_dict_eq_2 _ _) (WM.dec_dict_eq p es ep odd osl a C dx sl X.K c.m_dict) ⟨I.kIn, ho, e0, rfl, q⟩)⟩
theorem decl_ne {x : V} {u : Value} {Q : Option Value → Shared → Prop} {A : Around} {E : Value → Shared → Prop} (I : Inv X pins σ H s) (c : OwnC X.K C) (h : Slt H a C dx vs) (l : Left H x) (rx : RelV x u) (q : Q none s) :
    ∃ T, s.TypeIs u T ∧ PySem.W.mroIn X.K C (.type T) = some false ∧ wpAny (model X.prog X.w) A (tryCompare u (cmpInfo .NotEq).2.1 (.ref a)) Q E s := by
  obtain ⟨ne, sl, mA, e0, _, _, _⟩ := slt_at I h
  cases l with
  | non =>
    cases (show u = Value.none from rx)
    exact ⟨"NoneType", rfl, c.m_none, wpAny_tryCompare_declines rfl F.slot_NoneType_ne (call_meets F.slot_NoneType_ne rfl F.entry_NoneType_ne (F.args_NoneType_ne_2 _ _) (WM.dec_none_ne a) ⟨rfl, q⟩)⟩
  | bl b =>
    cases (show u = Value.bool b from rx)
    exact ⟨"bool", rfl, c.m_bool, wpAny_tryCompare_declines rfl F.slot_bool_ne (call_meets F.slot_bool_ne rfl F.entry_int_ne (F.args_int_ne_2 _ _) (WM.dec_bool_ne b a C dx sl) ⟨e0, rfl, q⟩)⟩
  | int i =>
    obtain ⟨t, rfl⟩ := (show ∃ t, u = Value.int i t from rx)
    exact ⟨"int", typeIs_int s i t, c.m_int, wpAny_tryCompare_declines (typeIs_int s i t) F.slot_int_ne (call_meets F.slot_int_ne (typeIs_int s i t) F.entry_int_ne (F.args_int_ne_2 _ _) (WM.dec_int_ne i t a C dx sl) ⟨e0, rfl, q⟩)⟩
  | str z =>
    obtain ⟨t, rfl⟩ := (show ∃ t, u = Value.str z t from rx)
    exact ⟨"str", typeIs_str s z t, c.m_str, wpAny_tryCompare_declines (typeIs_str s z t) F.slot_str_ne (call_meets F.slot_str_ne (typeIs_str s z t) F.entry_str_ne (F.args_str_ne_2 _ _) (WM.dec_str_ne z t a C dx sl) ⟨e0, rfl, q⟩)⟩
  | lst hp =>
    rename_i p xs
    cases (show u = Value.ref p from rx)
    obtain ⟨_, its, n, _, ho⟩ := (show ObjOk X.prog X.w H s.heap p (.lst xs) from I.hok p _ hp)
    exact ⟨"list", ⟨_, ho, rfl⟩, c.m_list, wpAny_tryCompare_declines ⟨_, ho, rfl⟩ F.slot_list_ne (call_meets F.slot_list_ne ⟨_, ho, rfl⟩ F.entry_list_ne (F.args_list_ne_2 _ _) (WM.dec_list_ne p its.toArray n none #[] a C dx sl X.K c.m_list) ⟨I.kIn, ho, e0, rfl, q⟩)⟩
  | tup hp =>
    rename_i p xs
    cases (show u = Value.ref p from rx)
    obtain ⟨_, its, _, ⟨oc, odd, odt, osl⟩, ho, hc, n, hd⟩ := (show ObjOk X.prog X.w H s.heap p (.tup xs) from I.hok p _ hp)
    simp only at hc hd
    subst hc hd
    exact ⟨"tuple", ⟨_, ho, rfl⟩, c.m_tuple, wpAny_tryCompare_declines ⟨_, ho, rfl⟩ F.slot_tuple_ne (call_meets F.slot_tuple_ne ⟨_, ho, rfl⟩ F.entry_tuple_ne (F.args_tuple_ne_2 _ _) (WM.dec_tuple_ne p its.toArray n odd osl a C dx sl X.K c.m_tuple) ⟨I.kIn, ho, e0, rfl, q⟩)⟩
  | dK hp =>
    rename_i p kvs
    cases (show u = Value.ref p from rx)
    obtain ⟨_, _, _, _, ⟨oc, odd, odt, osl⟩, es, ep, ho, hc, hd, _⟩ := (show ObjOk X.prog X.w H s.heap p (.dK kvs) from I.hok p _ hp)
    obtain ⟨hc, _⟩ := hc
    simp only at hc hd
    subst hc hd
    exact ⟨"dict", ⟨_, ho, rfl⟩, c.m_dict, wpAny_tryCompare_declines ⟨_, ho, rfl⟩ F.slot_dict_ne (call_meets F.slot_dict_ne ⟨_, ho, rfl⟩ F.entry_dict_ne (F.args_dict_ne_2 _ _) (WM.dec_dict_ne p es ep odd osl a C dx sl X.K c.m_dict) ⟨I.kIn, ho, e0, rfl, q⟩)⟩
theorem op_sndE (c : OwnC X.K C) (hs : PySem.W.findIn X.K (.ref C) "__eq__" = some (some (.ref g))) (hf : PySem.W.isFn X.K (.ref g) = true) (F : FnR X.prog X.w X.K X.mg X.base CX n g sp)
    (hr : Room n X.A) (hx : Passes CX X E) : OpR X (compareOp .Eq) (rSnd C sp E) := by
  intro pins s σ H x y v u Q I rx ry h
  obtain ⟨b, dx, vs, rfl, hb, l, q⟩ := h
  cases (show u = Value.ref b from ry)
  obtain ⟨sl, od, _, J, _⟩ := slt_inst I hb
  have go : wpAny (model X.prog X.w) X.A (tryCompare (.ref b) (cmpInfo .Eq).2.2 v) (fun r s' => ∃ z, r = some z ∧ EP X pins σ Q z s') X.xe s := by
    refine WM.tryOwn I.kIn J hs hf ?_
    refine wpAny_mono (wpAny_call (run_fnR (us := [.ref b, v]) (vs := [.ref b, x]) F hr hx I (.cons rfl (.cons rx .nil)) q)) (fun w s' z => ?_) fun _ _ x => x
    obtain ⟨z', H', I', rz, qz⟩ := z
    exact cmpback rz ⟨w, rfl, z', H', I', rz, qz⟩
  obtain ⟨T, hT, hm, ht⟩ := decl_eq (A := X.A) (E := X.xe) (Q := fun r s' => r = none ∧ wpAny (model X.prog X.w) X.A (tryCompare (.ref b) (cmpInfo .Eq).2.2 v) (fun r s' => ∃ z, r = some z ∧ EP X pins σ Q z s') X.xe s') I c hb l rx ⟨rfl, go⟩
  show wpAny _ _ (richCompare .Eq _ _) _ _ _
  exact WM.rc_second hr.units0 (hT.oneThing_none _ _) (TypeIs_looks hT) J.type (.inr (PySem.W.looks_mroIn I.kIn hm)) ht
theorem op_sndN (c : OwnC X.K C) (hs : PySem.W.findIn X.K (.ref C) "__eq__" = some (some (.ref g))) (hf : PySem.W.isFn X.K (.ref g) = true) (F : FnR X.prog X.w X.K X.mg X.base CX n g sp)
    (hr : Room (n + 1) X.A) (hx : Passes CX X E) : OpR X (compareOp .NotEq) (rSndN C sp E) := by
  intro pins s σ H x y v u Q I rx ry h
  obtain ⟨b, dx, vs, rfl, hb, l, q⟩ := h
  cases (show u = Value.ref b from ry)
  obtain ⟨sl, od, _, J, _⟩ := slt_inst I hb
  have go : wpAny (model X.prog X.w) X.A (tryCompare (.ref b) (cmpInfo .NotEq).2.2 v) (fun r s' => ∃ z, r = some z ∧ EP X pins σ Q z s') X.xe s := by
    refine WM.tryNe (by have := hr.units; omega) I.kIn J c.ne hs hf c.is.cm ?_
    refine wpAny_mono (wpAny_call (run_at (us := [.ref b, v]) (ws := [.ref b, x]) F hr.in1 I.env0.in1 hx I (.cons rfl (.cons rx .nil)) q)) (fun w s' z => ?_) fun _ _ x => x
    obtain ⟨z', H', I', rz, k, rfl, qz⟩ := z
    cases (show w = Value.bool k from rz)
    exact ⟨k, rfl, _, rfl, .bl (!k), H', I', rfl, qz⟩
  obtain ⟨T, hT, hm, ht⟩ := decl_ne (A := X.A) (E := X.xe) (Q := fun r s' => r = none ∧ wpAny (model X.prog X.w) X.A (tryCompare (.ref b) (cmpInfo .NotEq).2.2 v) (fun r s' => ∃ z, r = some z ∧ EP X pins σ Q z s') X.xe s') I c hb l rx ⟨rfl, go⟩
  show wpAny _ _ (richCompare .NotEq _ _) _ _ _
  exact WM.rc_second hr.units0 (hT.oneThing_none _ _) (TypeIs_looks hT) J.type (.inr (PySem.W.looks_mroIn I.kIn hm)) ht
theorem op_snd_lt (c : OwnC X.K C) (hs : PySem.W.findIn X.K (.ref C) "__gt__" = some (some (.ref g))) (hf : PySem.W.isFn X.K (.ref g) = true) (F : FnR X.prog X.w X.K X.mg X.base CX n g sp)
    (hr : Room n X.A) (hx : Passes CX X E) : OpR X (compareOp .Lt) (rSndI C sp E) := by
  intro pins s σ H x y v u Q I rx ry h
  obtain ⟨b, dx, vs, i, rfl, hb, rfl, q⟩ := h
  cases (show u = Value.ref b from ry)
  obtain ⟨t, rfl⟩ := (show ∃ t, v = Value.int i t from rx)
  obtain ⟨sl, od, _, J, _⟩ := slt_inst I hb
  obtain ⟨ne, sl2, mA, e0, _, _, _⟩ := slt_at I hb
  have go : wpAny (model X.prog X.w) X.A (tryCompare (.ref b) (cmpInfo .Lt).2.2 (.int i t)) (fun r s' => ∃ z, r = some z ∧ EP X pins σ Q z s') X.xe s := by
    refine WM.tryOwn I.kIn J hs hf ?_
    refine wpAny_mono (wpAny_call (run_fnR (us := [.ref b, .int i t]) (vs := [.ref b, .int i]) F hr hx I (.cons rfl (.cons ⟨t, rfl⟩ .nil)) q)) (fun w s' z => ?_) fun _ _ x => x
    obtain ⟨z', H', I', rz, qz⟩ := z
    exact cmpback rz ⟨w, rfl, z', H', I', rz, qz⟩
  show wpAny _ _ (richCompare .Lt _ _) _ _ _
  refine WM.rc_second hr.units0 ((typeIs_int s i t).oneThing_none _ _) (TypeIs_looks (typeIs_int s i t)) J.type (.inr (PySem.W.looks_mroIn I.kIn c.m_int)) (wpAny_tryCompare_declines (typeIs_int s i t) PySem.F.slot_int_lt ?_)
  exact call_meets PySem.F.slot_int_lt (typeIs_int s i t) PySem.F.entry_int_lt (PySem.F.args_int_lt_2 _ _) (WM.dec_int_lt i t b C dx sl2) ⟨e0, rfl, rfl, go⟩
theorem op_snd_le (c : OwnC X.K C) (hs : PySem.W.findIn X.K (.ref C) "__ge__" = some (some (.ref g))) (hf : PySem.W.isFn X.K (.ref g) = true) (F : FnR X.prog X.w X.K X.mg X.base CX n g sp)
    (hr : Room n X.A) (hx : Passes CX X E) : OpR X (compareOp .LtE) (rSndI C sp E) := by
  intro pins s σ H x y v u Q I rx ry h
  obtain ⟨b, dx, vs, i, rfl, hb, rfl, q⟩ := h
  cases (show u = Value.ref b from ry)
  obtain ⟨t, rfl⟩ := (show ∃ t, v = Value.int i t from rx)
  obtain ⟨sl, od, _, J, _⟩ := slt_inst I hb
  obtain ⟨ne, sl2, mA, e0, _, _, _⟩ := slt_at I hb
  have go : wpAny (model X.prog X.w) X.A (tryCompare (.ref b) (cmpInfo .LtE).2.2 (.int i t)) (fun r s' => ∃ z, r = some z ∧ EP X pins σ Q z s') X.xe s := by
    refine WM.tryOwn I.kIn J hs hf ?_
    refine wpAny_mono (wpAny_call (run_fnR (us := [.ref b, .int i t]) (vs := [.ref b, .int i]) F hr hx I (.cons rfl (.cons ⟨t, rfl⟩ .nil)) q)) (fun w s' z => ?_) fun _ _ x => x
    obtain ⟨z', H', I', rz, qz⟩ := z
    exact cmpback rz ⟨w, rfl, z', H', I', rz, qz⟩
  show wpAny _ _ (richCompare .LtE _ _) _ _ _
  refine WM.rc_second hr.units0 ((typeIs_int s i t).oneThing_none _ _) (TypeIs_looks (typeIs_int s i t)) J.type (.inr (PySem.W.looks_mroIn I.kIn c.m_int)) (wpAny_tryCompare_declines (typeIs_int s i t) PySem.F.slot_int_le ?_)
  exact call_meets PySem.F.slot_int_le (typeIs_int s i t) PySem.F.entry_int_le (PySem.F.args_int_le_2 _ _) (WM.dec_int_le i t b C dx sl2) ⟨e0, rfl, rfl, go⟩
theorem op_snd_gt (c : OwnC X.K C) (hs : PySem.W.findIn X.K (.ref C) "__lt__" = some (some (.ref g))) (hf : PySem.W.isFn X.K (.ref g) = true) (F : FnR X.prog X.w X.K X.mg X.base CX n g sp)
    (hr : Room n X.A) (hx : Passes CX X E) : OpR X (compareOp .Gt) (rSndI C sp E) := by
  intro pins s σ H x y v u Q I rx ry h
  obtain ⟨b, dx, vs, i, rfl, hb, rfl, q⟩ := h
  cases (show u = Value.ref b from ry)
  obtain ⟨t, rfl⟩ := (show ∃ t, v = Value.int i t from rx)
  obtain ⟨sl, od, _, J, _⟩ := slt_inst I hb
  obtain ⟨ne, sl2, mA, e0, _, _, _⟩ := slt_at I hb
  have go : wpAny (model X.prog X.w) X.A (tryCompare (.ref b) (cmpInfo .Gt).2.2 (.int i t)) (fun r s' => ∃ z, r = some z ∧ EP X pins σ Q z s') X.xe s := by
    refine WM.tryOwn I.kIn J hs hf ?_
    refine wpAny_mono (wpAny_call (run_fnR (us := [.ref b, .int i t]) (vs := [.ref b, .int i]) F hr hx I (.cons rfl (.cons ⟨t, rfl⟩ .nil)) q)) (fun w s' z => ?_) fun _ _ x => x
    obtain ⟨z', H', I', rz, qz⟩ := z
    exact cmpback rz ⟨w, rfl, z', H', I', rz, qz⟩
  show wpAny _ _ (richCompare .Gt _ _) _ _ _
  refine WM.rc_second hr.units0 ((typeIs_int s i t).oneThing_none _ _) (TypeIs_looks (typeIs_int s i t)) J.type (.inr (PySem.W.looks_mroIn I.kIn c.m_int)) (wpAny_tryCompare_declines (typeIs_int s i t) PySem.F.slot_int_gt ?_)
  exact call_meets PySem.F.slot_int_gt (typeIs_int s i t) PySem.F.entry_int_gt (PySem.F.args_int_gt_2 _ _) (WM.dec_int_gt i t b C dx sl2) ⟨e0, rfl, rfl, go⟩
theorem op_snd_ge (c : OwnC X.K C) (hs : PySem.W.findIn X.K (.ref C) "__le__" = some (some (.ref g))) (hf : PySem.W.isFn X.K (.ref g) = true) (F : FnR X.prog X.w X.K X.mg X.base CX n g sp)
    (hr : Room n X.A) (hx : Passes CX X E) : OpR X (compareOp .GtE) (rSndI C sp E) := by
  intro pins s σ H x y v u Q I rx ry h
  obtain ⟨b, dx, vs, i, rfl, hb, rfl, q⟩ := h
  cases (show u = Value.ref b from ry)
  obtain ⟨t, rfl⟩ := (show ∃ t, v = Value.int i t from rx)
  obtain ⟨sl, od, _, J, _⟩ := slt_inst I hb
  obtain ⟨ne, sl2, mA, e0, _, _, _⟩ := slt_at I hb
  have go : wpAny (model X.prog X.w) X.A (tryCompare (.ref b) (cmpInfo .GtE).2.2 (.int i t)) (fun r s' => ∃ z, r = some z ∧ EP X pins σ Q z s') X.xe s := by
    refine WM.tryOwn I.kIn J hs hf ?_
    refine wpAny_mono (wpAny_call (run_fnR (us := [.ref b, .int i t]) (vs := [.ref b, .int i]) F hr hx I (.cons rfl (.cons ⟨t, rfl⟩ .nil)) q)) (fun w s' z => ?_) fun _ _ x => x
    obtain ⟨z', H', I', rz, qz⟩ := z
    exact cmpback rz ⟨w, rfl, z', H', I', rz, qz⟩
  show wpAny _ _ (richCompare .GtE _ _) _ _ _
  refine WM.rc_second hr.units0 ((typeIs_int s i t).oneThing_none _ _) (TypeIs_looks (typeIs_int s i t)) J.type (.inr (PySem.W.looks_mroIn I.kIn c.m_int)) (wpAny_tryCompare_declines (typeIs_int s i t) PySem.F.slot_int_ge ?_)
  exact call_meets PySem.F.slot_int_ge (typeIs_int s i t) PySem.F.entry_int_ge (PySem.F.args_int_ge_2 _ _) (WM.dec_int_ge i t b C dx sl2) ⟨e0, rfl, rfl, go⟩
end
end WU

/-! Defs and classes of the text in one word each; what a call of them asks. -/
namespace WU
open PySem PySem.Spec PyProof.Rows L2 SlX
/-- a def that may be called by its name -/
structure Cal (P : Program) (w : World) (K : PySem.W.Frag) (mg : Str → Option Value) (base : Heap) (k : Nat) (x : Str) (sp : Sp) (dvs : List V) : Prop where
  ex : ∃ (f : Addr) (fd : FuncData) (ps : List Str) (ds : List Value), FnOk P w K mg base CX0 k f fd ps sp ∧ mg x = some (.ref f) ∧ PySem.W.keepIn K (.ref f) = true ∧ Binds K fd ps ds ∧ Vals dvs ds
/-- .. one that leans on repr -/
structure CalG (P : Program) (w : World) (K : PySem.W.Frag) (mg : Str → Option Value) (base : Heap) (k : Nat) (x : Str) (sp : Sp) (dvs : List V) : Prop where
  ex : ∃ (f : Addr) (fd : FuncData) (ps : List Str) (ds : List Value), FnG P w K mg base CX0 k f fd ps sp ∧ mg x = some (.ref f) ∧ PySem.W.keepIn K (.ref f) = true ∧ Binds K fd ps ds ∧ Vals dvs ds
/-- a class that may be made by its name; sp: its __init__ -/
structure Mak (P : Program) (w : World) (K : PySem.W.Frag) (mg : Str → Option Value) (base : Heap) (k : Nat) (x : Str) (C : Addr) (sp : Sp) (dvs : List V) : Prop where
  ex : ∃ (f : Addr) (fd : FuncData) (ps : List Str) (ds : List Value), Mk K C f ∧ FnOk P w K mg base CX0 k f fd ps sp ∧ mg x = some (.ref C) ∧ Binds K fd ps ds ∧ Vals dvs ds
section
variable {X : Cx} {k j : Nat} {C : Addr} {x m : Str} {sp : Sp} {dvs : List V} {p pos apos : Pos} {e o : Expr} {es : List Expr} {ta : TE} {t : TA}
theorem pe_cal (c : Cal X.prog X.w X.K X.mg X.base k x sp dvs) (hr : Room j X.A) (hk : k ≤ j) (hg : Gl X x) (ha : PA X (e :: es) t)
    (hdb : (x == ("__debug__" : Str)) = false := by decide) (he : starEach (e :: es) X.env = (false, eval e X.env) :: starEach es X.env := by rfl) (hpl : (backTo pos (starEach es X.env)).any (·.1) = false := by rfl) :
    PE X (.Call (.Name x p) (e :: es) [] pos) (tCall sp dvs E0 t) := by
  obtain ⟨f, fd, ps, ds, F, hm, kp, b, d⟩ := c.ex
  exact pe_call F (hr.mono hk) hg hm kp b d pass0 ha hdb he hpl
theorem pe_calG (c : CalG X.prog X.w X.K X.mg X.base k x sp dvs) (hr : Room j X.A) (hgd : X.A.guards = some []) (hk : k ≤ j) (hg : Gl X x) (ha : PA X (e :: es) t)
    (hdb : (x == ("__debug__" : Str)) = false := by decide) (he : starEach (e :: es) X.env = (false, eval e X.env) :: starEach es X.env := by rfl) (hpl : (backTo pos (starEach es X.env)).any (·.1) = false := by rfl) :
    PE X (.Call (.Name x p) (e :: es) [] pos) (tCall sp dvs E0 t) := by
  obtain ⟨f, fd, ps, ds, F, hm, kp, b, d⟩ := c.ex
  exact pe_callG F (hr.mono hk) hgd hg hm kp b d pass0 ha hdb he hpl
theorem pe_mak (c : Mak X.prog X.w X.K X.mg X.base k x C sp dvs) (hr : Room j X.A) (hk : k + 1 ≤ j) (hg : Gl X x) (ha : PA X (e :: es) t)
    (hdb : (x == ("__debug__" : Str)) = false := by decide) (he : starEach (e :: es) X.env = (false, eval e X.env) :: starEach es X.env := by rfl) (hpl : (backTo pos (starEach es X.env)).any (·.1) = false := by rfl) :
    PE X (.Call (.Name x p) (e :: es) [] pos) (tMake C sp dvs E0 t) := by
  obtain ⟨f, fd, ps, ds, M, F, hm, b, d⟩ := c.ex
  exact pe_make M F (hr.mono hk) hg hm b d pass0 ha hdb he hpl
end
/-- a slot as a target of an assignment -/
def gSl (K : PySem.W.Frag) (to : TE) (f : Str) : TG := fun v σ H Q => to σ H fun x H1 => ∃ a C dx p vs i, x = .ref a ∧ Slt H1 a C dx vs ∧ SCls K C ∧ Slot1 K C f p i ∧ Q σ (slH H1 a C dx (putS i v vs))
theorem pg_sl {X : Cx} {o : Expr} {f : Str} {pos : Pos} {to : TE} (ho : PE X o to)
    (ha : ∀ v, assign (.Attribute o f pos) X.env v = (do
      let ov ← holding [v] (eval o X.env)
      standAt pos.atName
      holding [v, ov] (setAttr ov f v)
      release [v, ov] []) := by intro _; rfl) : PG X (.Attribute o f pos) (gSl X.K to f) := by
  refine ⟨fun pins s σ H v u Q I r h => ?_⟩
  rw [ha]
  refine wpAny_bind (wpAny_holding (thn (ho.run pins s σ H _ I h) fun ov s1 ⟨x, H1, I1, r1, a, C, dx, p, vs, i, ex, hsl, c, t, q⟩ => ?_))
  subst ex
  obtain rfl : ov = Value.ref a := r1
  refine wpAny_bind (wpAny_standAt (wpAny_bind (wpAny_holding (setslot_ok I1 hsl c t r fun s2 I2 => ?_))))
  exact wpAny_release ⟨σ, _, I2, q⟩
/-- a name of the module, by its value -/
theorem pe_gc {X : Cx} {x : Str} {pos : Pos} {v : V} (hg : Gl X x) (h : ∃ u, X.mg x = some u ∧ RelV v u) (hd : (x == ("__debug__" : Str)) = false := by decide) : PE X (.Name x pos) (tC v) := by
  obtain ⟨u, hm, r⟩ := h
  exact pe_glob hg hm r hd
theorem fnR_of {P : Program} {w : World} {K : PySem.W.Frag} {mg : Str → Option Value} {base : Heap} {CX : CXT} {k : Nat} {f : Addr} {fd : FuncData} {ps : List Str} {sp : Sp} (F : FnOk P w K mg base CX k f fd ps sp) (b : Binds K fd ps []) : FnR P w K mg base CX k f sp := by
  intro A outer s H us vs Q E hr e0 r h
  have hl : us.length = ps.length := by rw [← r.length]; exact F.len _ _ _ _ h
  have KX : K.In s.heap := e0.mod.kin.keeps fun b o e => (e0.bs b o e).1
  have hb := b s us KX (by rw [List.append_nil]; exact hl)
  rw [List.append_nil] at hb
  exact F.run A outer s H ⟨us, []⟩ us vs Q E hr e0 hb r h
end WU

/-! Great ints: powers, exact quotients by divisors of either sign. -/
namespace WU
open PySem PySem.Spec PyProof.Rows L2 SlX
def CPowW (i j : Int) : Prop := 0 ≤ j ∧ (Builtin.Int.intBits i : Int) * j ≤ 2 ^ 27
theorem op_powW {X : Cx} : OpR X (binaryOp .Pow) (rI CPowW fun i j => .int (i ^ j.toNat)) := opI fun _ _ _ _ _ _ _ hc q => pow_int hc.1 hc.2 q
def CDivX (_ j : Int) : Prop := j ≠ 0 ∧ j.natAbs.log2 < 9000
theorem op_fdivX {X : Cx} : OpR X (binaryOp .FloorDiv) (rI CDivX fun i j => .int (i.fdiv j)) := opI fun i j _ _ _ _ _ hc q => floordiv_int hc.1 q (.inl (PyProof.noPylong_of_log2 hc.2))
end WU

/-! What is said of the heap: extensions, a jar of draws, amounts, kinds of values. -/
namespace WU
open PySem PySem.Spec PyProof.Rows L2 SlX
open Evl (Ex)
/-- all but the jar at p is kept -/
def Keep (p : Addr) (H H' : Hp) : Prop := ∀ a o, a ≠ p → H a = some o → H' a = some o
theorem Keep.refl (p : Addr) (H : Hp) : Keep p H H := fun _ _ _ h => h
theorem Keep.trans {p : Addr} {H H1 H2 : Hp} (a : Keep p H H1) (b : Keep p H1 H2) : Keep p H H2 := fun x o n h => b x o n (a x o n h)
theorem Keep.of {p : Addr} {H H' : Hp} (e : Ex H H') : Keep p H H' := fun a o _ h => e a o h
theorem Keep.upd {p : Addr} {H H' : Hp} {o : HO} (k : Keep p H H') : Keep p H (upd H' p o) := fun a u n h => by
  rw [upd_ne n]
  exact k a u n h
theorem Keep.new {p q : Addr} {H H' : Hp} {o : HO} (k : Keep p H H') (h : H' q = none) : Keep p H (L2.upd H' q o) := fun a u n e => by
  have z := k a u n e
  rw [upd_ne (ne_of_none z h)]
  exact z
/-- what was free ahead is free -/
theorem Keep.back {p q : Addr} {H H' : Hp} (k : Keep p H H') (h : H' q = none) (n : q ≠ p) : H q = none := by
  cases e : H q with
  | none => rfl
  | some o =>
    rw [k q o n e] at h
    cases h
/-- a jar at p with at least n draws left -/
def Jar (H : Hp) (p : Addr) (n : Nat) : Prop := ∃ a b c : Int, H p = some (.lst [.int a, .int b, .int c]) ∧ 0 ≤ a ∧ a < 2 ^ 1000 ∧ 0 ≤ b ∧ b < 2 ^ 62 ∧ 0 ≤ c ∧ c + n ≤ 1000000000
theorem Jar.le {H : Hp} {p : Addr} {n m : Nat} (j : Jar H p n) (h : m ≤ n) : Jar H p m := by
  obtain ⟨a, b, c, e, r⟩ := j
  exact ⟨a, b, c, e, by omega⟩
theorem Jar.ext {H H' : Hp} {p : Addr} {n : Nat} (j : Jar H p n) (e : Ex H H') : Jar H' p n := by
  obtain ⟨a, b, c, h, r⟩ := j
  exact ⟨a, b, c, e _ _ h, r⟩
theorem Jar.ne_none {H : Hp} {p q : Addr} {n : Nat} (j : Jar H p n) (h : H q = none) : q ≠ p := by
  obtain ⟨a, b, c, e, r⟩ := j
  exact Ne.symm (ne_of_none e h)
theorem Jar.new {H : Hp} {p q : Addr} {n : Nat} {o : HO} (j : Jar H p n) (h : H q = none) : Jar (upd H q o) p n := j.ext (Ex.new h)
where
  Ex.new {H : Hp} {p : Addr} {o : HO} (h : H p = none) : Ex H (upd H p o) := Evl.Ex.new h
/-- an object that is no list stays -/
theorem Keep.at {p a : Addr} {H H' : Hp} {n : Nat} {o : HO} (k : Keep p H H') (j : Jar H p n) (h : H a = some o) (hn : ∀ xs, o ≠ .lst xs) : H' a = some o := by
  obtain ⟨x, y, z, e, r⟩ := j
  exact k a o (fun q => by rw [q, e] at h; exact hn _ (Option.some.inj h).symm) h
/-- an amount: the object at a, number n, under d -/
def Am (C : Addr) (H : Hp) (v : V) (n d : Int) : Prop := ∃ a dx, v = .ref a ∧ H a = some (SlO a C dx [some (.int n), some (.int d)]) ∧ H dx = some (.xd [])
theorem Am.ext {C : Addr} {H H' : Hp} {v : V} {n d : Int} (x : Am C H v n d) (e : Ex H H') : Am C H' v n d := by
  obtain ⟨a, dx, h1, h2, h3⟩ := x
  exact ⟨a, dx, h1, e _ _ h2, e _ _ h3⟩
theorem Am.keep {C p : Addr} {H H' : Hp} {v : V} {n d : Int} {m : Nat} (x : Am C H v n d) (k : Keep p H H') (j : Jar H p m) : Am C H' v n d := by
  obtain ⟨a, dx, h1, h2, h3⟩ := x
  exact ⟨a, dx, h1, k.at j h2 (fun _ z => by unfold SlO at z; cases z), k.at j h3 (fun _ z => nomatch z)⟩
theorem Am.slt {C : Addr} {H : Hp} {v : V} {n d : Int} (x : Am C H v n d) : ∃ a dx, v = .ref a ∧ Slt H a C dx [some (.int n), some (.int d)] := by
  obtain ⟨a, dx, h1, h2, h3⟩ := x
  exact ⟨a, dx, h1, .inr ⟨h2, h3⟩⟩
/-- the kinds of values -/
inductive Kd where
  | int | bool | none | str | list | tuple | dict | amt
  deriving DecidableEq
def tyk (C : Addr) : Kd → Value
  | .int => .type "int"
  | .bool => .type "bool"
  | .none => .type "NoneType"
  | .str => .type "str"
  | .list => .type "list"
  | .tuple => .type "tuple"
  | .dict => .type "dict"
  | .amt => .ref C
/-- what the text's class Amount has -/
structure AmC (K : PySem.W.Frag) (C p0 p1 : Addr) : Prop where
  own : OwnC K C
  s0 : Slot1 K C "own_number" p0 0
  s1 : Slot1 K C "own_under" p1 1
  k_int : PySem.W.kitOne K (.ref C) (.type "int") = some false
  k_bool : PySem.W.kitOne K (.ref C) (.type "bool") = some false
  k_str : PySem.W.kitOne K (.ref C) (.type "str") = some false
  t_me : PySem.W.kitOne K (.ref C) (.ref C) = some true
  t_int : PySem.W.kitOne K (.type "int") (.ref C) = some false
  t_bool : PySem.W.kitOne K (.type "bool") (.ref C) = some false
  t_none : PySem.W.kitOne K (.type "NoneType") (.ref C) = some false
  t_str : PySem.W.kitOne K (.type "str") (.ref C) = some false
  t_list : PySem.W.kitOne K (.type "list") (.ref C) = some false
  t_tuple : PySem.W.kitOne K (.type "tuple") (.ref C) = some false
  t_dict : PySem.W.kitOne K (.type "dict") (.ref C) = some false
theorem AmC.kit_int {K : PySem.W.Frag} {C p0 p1 : Addr} (c : AmC K C p0 p1) (k : Kd) : PySem.W.kitOne K (tyk C k) (.type "int") = some (decide (k = .int ∨ k = .bool)) := by
  cases k with
  | amt => exact c.k_int
  | _ => exact kit_ty (by decide +kernel)
theorem AmC.kit_bool {K : PySem.W.Frag} {C p0 p1 : Addr} (c : AmC K C p0 p1) (k : Kd) : PySem.W.kitOne K (tyk C k) (.type "bool") = some (decide (k = .bool)) := by
  cases k with
  | amt => exact c.k_bool
  | _ => exact kit_ty (by decide +kernel)
theorem AmC.kit_str {K : PySem.W.Frag} {C p0 p1 : Addr} (c : AmC K C p0 p1) (k : Kd) : PySem.W.kitOne K (tyk C k) (.type "str") = some (decide (k = .str)) := by
  cases k with
  | amt => exact c.k_str
  | _ => exact kit_ty (by decide +kernel)
theorem AmC.kit_me {K : PySem.W.Frag} {C p0 p1 : Addr} (c : AmC K C p0 p1) (k : Kd) : PySem.W.kitOne K (tyk C k) (.ref C) = some (decide (k = .amt)) := by
  cases k with
  | amt => exact c.t_me
  | int => exact c.t_int
  | bool => exact c.t_bool
  | none => exact c.t_none
  | str => exact c.t_str
  | list => exact c.t_list
  | tuple => exact c.t_tuple
  | dict => exact c.t_dict
theorem Am.ty {K : PySem.W.Frag} {C p0 p1 : Addr} {H : Hp} {v : V} {n d : Int} (x : Am C H v n d) (c : AmC K C p0 p1) : TyW K H v (tyk C .amt) := by
  obtain ⟨a, dx, rfl, h⟩ := x.slt
  exact .sl h c.own.cl c.own.is
def isTy : Value → Bool
  | .type _ => true
  | _ => false
theorem isTy_no : ∀ (l : List Value) (C : Addr), l.all isTy = true → l.contains (.ref C) = false
  | [], _, _ => rfl
  | v :: l, C, h => by
    rw [List.all_cons, Bool.and_eq_true] at h
    rw [List.contains_cons, isTy_no l C h.2, Bool.or_false]
    cases v <;> first | rfl | (exact absurd h.1 Bool.false_ne_true)
theorem sub_ty {K : PySem.W.Frag} {C : Addr} {T : String} (h : ((fastBuiltinMro T).any fun l => l.all isTy) = true) : PySem.W.subIn K (.type T) (.ref C) = some false := by
  unfold PySem.W.subIn
  cases e : fastBuiltinMro T with
  | none => rw [e] at h; cases h
  | some l =>
    rw [e] at h
    show (fastBuiltinMro T).map (fun x => x.contains (.ref C)) = some false
    rw [e, Option.map_some, isTy_no l C h]
theorem kit_ref_ty {K : PySem.W.Frag} {C : Addr} {T : String} (h : PySem.W.mroIn K C (.type T) = some false) (m : PySem.W.kitMeta T = true) : PySem.W.kitOne K (.ref C) (.type T) = some false := by
  unfold PySem.W.kitOne
  rw [if_neg (by simp)]
  unfold PySem.W.kitCls
  simp only [m, if_true]
  exact h
theorem kit_ty_ref {K : PySem.W.Frag} {C : Addr} {T : String} (h : ((fastBuiltinMro T).any fun l => l.all isTy) = true) (ic : PySem.W.isClsIn K C = true) (ty : PySem.W.typeIn K (.ref C) = some (.type "type")) : PySem.W.kitOne K (.type T) (.ref C) = some false := by
  unfold PySem.W.kitOne
  rw [if_neg (by simp)]
  unfold PySem.W.kitCls
  have e : ((PySem.W.clsIn K C).isSome && PySem.W.typeIn K (.ref C) == some (.type "type")) = true := by
    rw [Bool.and_eq_true]
    exact ⟨ic, by rw [ty]; exact beq_self_eq_true _⟩
  simp only [e, if_true]
  exact sub_ty h
theorem kit_self {K : PySem.W.Frag} {C : Addr} : PySem.W.kitOne K (.ref C) (.ref C) = some true := by
  unfold PySem.W.kitOne
  rw [if_pos (beq_self_eq_true _)]
theorem AmC.of {K : PySem.W.Frag} {C p0 p1 : Addr} (own : OwnC K C) (s0 : Slot1 K C "own_number" p0 0) (s1 : Slot1 K C "own_under" p1 1) (ty : PySem.W.typeIn K (.ref C) = some (.type "type")) : AmC K C p0 p1 where
  own := own
  s0 := s0
  s1 := s1
  k_int := kit_ref_ty own.m_int (by decide +kernel)
  k_bool := kit_ref_ty own.m_bool (by decide +kernel)
  k_str := kit_ref_ty own.m_str (by decide +kernel)
  t_me := kit_self
  t_int := kit_ty_ref (by decide +kernel) own.cl.ic ty
  t_bool := kit_ty_ref (by decide +kernel) own.cl.ic ty
  t_none := kit_ty_ref (by decide +kernel) own.cl.ic ty
  t_str := kit_ty_ref (by decide +kernel) own.cl.ic ty
  t_list := kit_ty_ref (by decide +kernel) own.cl.ic ty
  t_tuple := kit_ty_ref (by decide +kernel) own.cl.ic ty
  t_dict := kit_ty_ref (by decide +kernel) own.cl.ic ty
theorem AmC.nf {K : PySem.W.Frag} {C p0 p1 : Addr} (c : AmC K C p0 p1) (k : Kd) : PySem.W.notFirst K C (tyk C k) = true := by
  unfold PySem.W.notFirst
  cases k with
  | amt => exact Bool.or_eq_true_iff.mpr (.inl (beq_self_eq_true _))
  | _ => exact Bool.or_eq_true_iff.mpr (.inr (beq_iff_eq.mpr (sub_ty (by decide +kernel))))
/-- a while whose test answers b at each turn and leaves the heap -/
theorem while_a {c : TT} {tb : TS} {D : Ends} {σ : L2.St} {H : Hp} (W : Nat → L2.St → Hp → Prop) (m : Nat) (w0 : W m σ H)
    (hs : ∀ m σ H, W m σ H → ∃ b : Bool, (∀ Q : Bool → Hp → Prop, Q b H → c σ H Q) ∧ (b = true → ∀ N : L2.St → Hp → Prop, (∀ m' σ' H', m' < m → W m' σ' H' → N σ' H') → tb { D with nx := N, ct := N, bk := D.nx } σ H) ∧ (b = false → D.nx σ H)) : tWhile c tb D σ H := by
  refine ⟨W, ⟨m, w0⟩, fun m σ H w => ?_⟩
  obtain ⟨b, h1, h2, h3⟩ := hs m σ H w
  refine h1 _ ?_
  cases b with
  | true =>
    show (if true = true then _ else _)
    rw [if_pos rfl]
    exact ⟨_, fun _ _ n => n, h2 rfl _ fun m' σ' H' l w' => ⟨m', l, w'⟩⟩
  | false =>
    show (if false = true then _ else _)
    rw [if_neg Bool.false_ne_true]
    exact h3 rfl
theorem iteN {c : Bool} {A B : Prop} (h : c = false) (k : B) : if c = true then A else B := by
  subst h
  exact iteF k
theorem iteY {c : Bool} {A B : Prop} (h : c = true) (k : A) : if c = true then A else B := by
  subst h
  exact iteT k
theorem abs_eq (i : Int) : (if i < 0 then -i else i) = (i.natAbs : Int) := by split <;> omega
theorem dec_f {p : Prop} [Decidable p] (h : ¬ p) : decide p = false := decide_eq_false h
theorem dec_t {p : Prop} [Decidable p] (h : p) : decide p = true := decide_eq_true h
/-- a.own_number, a.own_under of an amount -/
def tNum (C : Addr) (ta : TE) : TE := fun σ H Q => ta σ H fun x H1 => ∃ n d, Am C H1 x n d ∧ Q (.int n) H1
def tDen (C : Addr) (ta : TE) : TE := fun σ H Q => ta σ H fun x H1 => ∃ n d, Am C H1 x n d ∧ Q (.int d) H1
section
variable {X : Cx} {e : Expr} {pos : Pos} {ta : TE} {C p0 p1 : Addr}
theorem pe_num (T : AmC X.K C p0 p1) (he : PE X e ta) (hb : attributeBase e "own_number" X.env (eval e X.env) = eval e X.env := by rfl) : PE X (.Attribute e "own_number" pos) (tNum C ta) := by
  refine ⟨fun pins s σ H Q I h => ?_⟩
  refine attr_of hb (thn (he.run pins s σ H _ I h) fun u s1 ⟨x, H1, I1, rx, n, d, am, q⟩ => ?_)
  obtain ⟨a, dx, rfl, hs⟩ := am.slt
  obtain rfl : u = Value.ref a := rx
  exact getslot_ok I1 hs T.own.cl T.s0 rfl fun u' s2 I2 ru => ⟨_, H1, I2, ru, q⟩
theorem pe_den (T : AmC X.K C p0 p1) (he : PE X e ta) (hb : attributeBase e "own_under" X.env (eval e X.env) = eval e X.env := by rfl) : PE X (.Attribute e "own_under" pos) (tDen C ta) := by
  refine ⟨fun pins s σ H Q I h => ?_⟩
  refine attr_of hb (thn (he.run pins s σ H _ I h) fun u s1 ⟨x, H1, I1, rx, n, d, am, q⟩ => ?_)
  obtain ⟨a, dx, rfl, hs⟩ := am.slt
  obtain rfl : u = Value.ref a := rx
  exact getslot_ok I1 hs T.own.cl T.s1 rfl fun u' s2 I2 ru => ⟨_, H1, I2, ru, q⟩
end
end WU

/-! Fractions in least terms: plain mathematics. -/
namespace FrM
def g (n u : Int) : Nat := Nat.gcd n.natAbs u.natAbs
def num (n u : Int) : Int := (if 0 < u then n else -n) / (g n u : Int)
def den (n u : Int) : Int := (u.natAbs : Int) / (g n u : Int)
structure Red (n d : Int) : Prop where
  pos : 0 < d
  cop : Nat.gcd n.natAbs d.natAbs = 1
theorem g_pos {n u : Int} (h : u ≠ 0) : 0 < g n u := Nat.gcd_pos_of_pos_right _ (by omega)
theorem g_dn (n u : Int) : (g n u : Int) ∣ n := Int.ofNat_dvd_left.mpr (Nat.gcd_dvd_left _ _)
theorem g_du (n u : Int) : (g n u : Int) ∣ u := Int.ofNat_dvd_left.mpr (Nat.gcd_dvd_right _ _)
theorem num_mul {n u : Int} (h : u ≠ 0) : num n u * (g n u : Int) = if 0 < u then n else -n := by
  unfold num
  apply Int.ediv_mul_cancel
  split
  · exact g_dn n u
  · exact Int.dvd_neg.mpr (g_dn n u)
theorem den_mul {n u : Int} (h : u ≠ 0) : den n u * (g n u : Int) = (u.natAbs : Int) := by
  unfold den
  apply Int.ediv_mul_cancel
  exact Int.natCast_dvd_natCast.mpr (Nat.gcd_dvd_right _ _)
theorem den_pos {n u : Int} (h : u ≠ 0) : 0 < den n u := by
  have h1 := den_mul (n := n) h
  have h2 : 0 < (g n u : Int) := by have := g_pos (n := n) h; omega
  have h3 : 0 < (u.natAbs : Int) := by omega
  rcases Int.lt_or_le 0 (den n u) with z | z
  · exact z
  · exfalso
    have : den n u * (g n u : Int) ≤ 0 := Int.mul_nonpos_of_nonpos_of_nonneg z (by omega)
    omega
theorem num_abs {n u : Int} (h : u ≠ 0) : (num n u).natAbs * g n u = n.natAbs := by
  have h1 := congrArg Int.natAbs (num_mul (n := n) h)
  rw [Int.natAbs_mul, Int.natAbs_natCast] at h1
  rw [h1]
  split <;> omega
theorem den_abs {n u : Int} (h : u ≠ 0) : (den n u).natAbs * g n u = u.natAbs := by
  have h1 := congrArg Int.natAbs (den_mul (n := n) h)
  rw [Int.natAbs_mul, Int.natAbs_natCast, Int.natAbs_natCast] at h1
  exact h1
theorem red {n u : Int} (h : u ≠ 0) : Red (num n u) (den n u) := by
  refine ⟨den_pos h, ?_⟩
  have hg := g_pos (n := n) h
  have e1 := num_abs (n := n) h
  have e2 := den_abs (n := n) h
  have h3 : Nat.gcd ((num n u).natAbs * g n u) ((den n u).natAbs * g n u) = g n u := by
    rw [e1, e2]
    rfl
  rw [Nat.gcd_mul_right] at h3
  have h4 : Nat.gcd (num n u).natAbs (den n u).natAbs * g n u = 1 * g n u := by omega
  exact Nat.eq_of_mul_eq_mul_right hg h4
/-- a fraction that is one of a reduced one's makes has its least terms -/
theorem of_scaled {n d : Int} (r : Red n d) {k : Int} (hk : 0 < k) : num (n * k) (d * k) = n ∧ den (n * k) (d * k) = d := by
  have hd := r.pos
  have hu : 0 < d * k := Int.mul_pos hd hk
  have hg : (g (n * k) (d * k) : Int) = k := by
    unfold g
    rw [Int.natAbs_mul, Int.natAbs_mul, Nat.gcd_mul_right, r.cop]
    omega
  unfold num den
  rw [hg, if_pos hu]
  refine ⟨Int.mul_ediv_cancel _ (by omega), ?_⟩
  have : ((d * k).natAbs : Int) = d * k := by omega
  rw [this]
  exact Int.mul_ediv_cancel _ (by omega)
theorem of_red {n d : Int} (r : Red n d) : num n d = n ∧ den n d = d := by
  have h := of_scaled r (k := 1) (by omega)
  rw [Int.mul_one, Int.mul_one] at h
  exact h
theorem red_int (n : Int) : Red n 1 := ⟨by omega, by simp⟩
theorem num_one (n : Int) : num n 1 = n := (of_red (red_int n)).1
theorem den_one (n : Int) : den n 1 = 1 := (of_red (red_int n)).2
/-- two fractions in least terms are equal just if they are the same -/
theorem red_inj {n d n' d' : Int} (r : Red n d) (r' : Red n' d') (h : n * d' = n' * d) : n = n' ∧ d = d' := by
  have hd := r.pos
  have hd' := r'.pos
  have ha : n.natAbs * d'.natAbs = n'.natAbs * d.natAbs := by
    have := congrArg Int.natAbs h
    rwa [Int.natAbs_mul, Int.natAbs_mul] at this
  have c1 : Nat.Coprime d.natAbs n.natAbs := Nat.Coprime.symm r.cop
  have c2 : Nat.Coprime d'.natAbs n'.natAbs := Nat.Coprime.symm r'.cop
  have q1 : d.natAbs ∣ d'.natAbs := by
    apply Nat.Coprime.dvd_of_dvd_mul_left c1
    rw [ha]
    exact Nat.dvd_mul_left _ _
  have q2 : d'.natAbs ∣ d.natAbs := by
    apply Nat.Coprime.dvd_of_dvd_mul_left c2
    rw [← ha]
    exact Nat.dvd_mul_left _ _
  have e : d = d' := by
    have := Nat.dvd_antisymm q1 q2
    omega
  refine ⟨?_, e⟩
  rw [e] at h
  exact Int.eq_of_mul_eq_mul_right (by omega) h
/-- the quotients by the signed divisor -/
theorem num_fdiv {n u : Int} (h : u ≠ 0) : n.fdiv ((g n u : Int) * (if 0 < u then 1 else -1)) = num n u := by
  have hg := g_pos (n := n) h
  have e := num_mul (n := n) h
  have hn : n = ((g n u : Int) * (if 0 < u then 1 else -1)) * num n u := by
    split at e
    · rename_i z
      rw [if_pos z, Int.mul_one, Int.mul_comm]
      exact e.symm
    · rename_i z
      rw [if_neg z, Int.mul_neg, Int.mul_one, Int.neg_mul, Int.mul_comm]
      omega
  have hne : ((g n u : Int) * (if 0 < u then 1 else -1)) ≠ 0 := by
    split
    · omega
    · rw [Int.mul_neg]
      omega
  calc n.fdiv ((g n u : Int) * (if 0 < u then 1 else -1)) = (((g n u : Int) * (if 0 < u then 1 else -1)) * num n u).fdiv ((g n u : Int) * (if 0 < u then 1 else -1)) := by rw [← hn]
    _ = num n u := Int.mul_fdiv_cancel_left _ hne
theorem den_fdiv {n u : Int} (h : u ≠ 0) : u.fdiv ((g n u : Int) * (if 0 < u then 1 else -1)) = den n u := by
  have hg := g_pos (n := n) h
  have e := den_mul (n := n) h
  have hn : u = ((g n u : Int) * (if 0 < u then 1 else -1)) * den n u := by
    split
    · rename_i z
      rw [Int.mul_one, Int.mul_comm]
      omega
    · rename_i z
      rw [Int.mul_neg, Int.mul_one, Int.neg_mul, Int.mul_comm]
      omega
  have hne : ((g n u : Int) * (if 0 < u then 1 else -1)) ≠ 0 := by
    split
    · omega
    · rw [Int.mul_neg]
      omega
  calc u.fdiv ((g n u : Int) * (if 0 < u then 1 else -1)) = (((g n u : Int) * (if 0 < u then 1 else -1)) * den n u).fdiv ((g n u : Int) * (if 0 < u then 1 else -1)) := by rw [← hn]
    _ = den n u := Int.mul_fdiv_cancel_left _ hne
/-- the law's own way: the sign first -/
theorem num_law {n u : Int} (h : u ≠ 0) : ((if 0 < u then 1 else -1) * n).fdiv (g n u : Int) = num n u := by
  rw [Int.fdiv_eq_ediv_of_nonneg _ (by omega)]
  unfold num
  split <;> simp
theorem den_law {n u : Int} (h : u ≠ 0) : ((if 0 < u then 1 else -1) * u).fdiv (g n u : Int) = den n u := by
  rw [Int.fdiv_eq_ediv_of_nonneg _ (by omega)]
  unfold den
  split
  · congr 1
    omega
  · congr 1
    omega
theorem num_le {n u : Int} (h : u ≠ 0) : (num n u).natAbs ≤ n.natAbs := by
  have e := num_abs (n := n) h
  have hg := g_pos (n := n) h
  calc (num n u).natAbs = (num n u).natAbs * 1 := (Nat.mul_one _).symm
    _ ≤ (num n u).natAbs * g n u := Nat.mul_le_mul_left _ hg
    _ = n.natAbs := e
theorem den_le {n u : Int} (h : u ≠ 0) : (den n u).natAbs ≤ u.natAbs := by
  have e := den_abs (n := n) h
  have hg := g_pos (n := n) h
  calc (den n u).natAbs = (den n u).natAbs * 1 := (Nat.mul_one _).symm
    _ ≤ (den n u).natAbs * g n u := Nat.mul_le_mul_left _ hg
    _ = u.natAbs := e
theorem g_le {n u : Int} (h : u ≠ 0) : g n u ≤ u.natAbs := Nat.gcd_le_right _ (by omega)
/-- one turn of the divisor's search -/
theorem gcd_turn {a b : Int} (ha : 0 ≤ a) (hb : 0 < b) : Nat.gcd b.natAbs (a.fmod b).natAbs = Nat.gcd a.natAbs b.natAbs := by
  rw [Int.fmod_eq_emod_of_nonneg a (by omega)]
  have e : (a % b).natAbs = a.natAbs % b.natAbs := by
    rw [← Int.natAbs_of_nonneg ha, ← Int.natAbs_of_nonneg (show 0 ≤ b by omega)]
    exact (Int.natAbs_natCast (a.natAbs % b.natAbs)).trans (by simp)
  rw [e, Nat.gcd_comm a.natAbs b.natAbs, Nat.gcd_rec b.natAbs a.natAbs, Nat.gcd_comm]
end FrM

namespace Lw
open PySem PySem.Spec PyProof.Rows L2 SlX WU
open Evl (Ex)
def top (i : Nat) : Stmt := PySem.Challenge.pw_whoseuse_k03_amounts_compared.main.body.getD i (.Pass ⟨0, 0, 0, 0⟩)
structure Txt (K : PySem.W.Frag) (mg : Str → Option Value) (CA p0 p1 : Addr) : Prop where
  am : AmC K CA p0 p1
  g_Amount : ∃ u, mg "Amount" = some u ∧ RelV (.ref CA) u
  z_int : mg "int" = none
  z_bool : mg "bool" = none
  z_isinstance : mg "isinstance" = none
  z_abs : mg "abs" = none
  z_len : mg "len" = none
  z_range : mg "range" = none
  z_max : mg "max" = none
  z_min : mg "min" = none
  z_all : mg "all" = none
  z_repr : mg "repr" = none
section
variable {P : Program} {w : World} {K : PySem.W.Frag} {mg : Str → Option Value} {base : Heap} {CA p0 p1 : Addr}
/-! ### plain.is_integer -/
abbrev s_is_integer : Stmt := top 7
abbrev N_is_integer : List Str := ["value"]
theorem sc_is_integer : FnScope N_is_integer ["value"] (defScope s_is_integer) := ⟨rfl, rfl, rfl, by decide +kernel, rfl, by decide +kernel, by decide +kernel⟩
def sp_is_integer (K : PySem.W.Frag) (CA : Addr) : Sp := fun vs H Q _ => ∃ v k, vs = [v] ∧ TyW K H v (tyk CA k) ∧ Q (.bl (decide (k = .int))) H
theorem ok_is_integer {f : Addr} {fd : FuncData} (F : L2.Fun K "is_integer" "is_integer" s_is_integer f fd) (T : Txt K mg CA p0 p1) : FnOk P w K mg base CX0 1 f fd ["value"] (sp_is_integer K CA) := by
  refine F.ok sc_is_integer (fun vs H Q E h => ?_) (fun cdv A outer s H vs Q E hr h => ?_)
  · obtain ⟨v, k, rfl, _⟩ := h
    rfl
  · obtain ⟨v, k, rfl, ty, q⟩ := h
    refine ⟨_, (pss_one (ps_ret (pe_and (pe_callB call_isW (by rfl) T.z_isinstance (by decide +kernel) (pa_cons (pv 0) (pa_cons (pe_bltn (v := .ty "int") (u := .type "int") rfl T.z_int (by decide +kernel) rfl) pa_nil))) (pe_one (pe_not (pe_callB call_isW (by rfl) T.z_isinstance (by decide +kernel) (pa_cons (pv 0) (pa_cons (pe_bltn (v := .ty "bool") (u := .type "bool") rfl T.z_bool (by decide +kernel) rfl) pa_nil)))))))), ?_⟩
    refine ⟨_, rfl, _, _, _, _, _, rfl, .ty "int", ty, T.am.kit_int k, _, rfl, ?_⟩
    by_cases hk : k = .int ∨ k = .bool
    · rw [if_pos (decide_eq_true hk)]
      refine ⟨_, rfl, _, _, _, _, _, rfl, .ty "bool", ty, T.am.kit_bool k, _, rfl, ?_⟩
      have e : (!decide (k = .bool)) = decide (k = Kd.int) := by rcases hk with rfl | rfl <;> decide
      rw [e]
      exact q
    · rw [if_neg (by simpa using hk)]
      have e : decide (k = Kd.int) = false := by simp at hk; simp [hk.1]
      rw [e] at q
      exact q
/-! ### amounts.shared_by -/
abbrev s_shared_by : Stmt := top 10
abbrev N_shared_by : List Str := ["one", "other"]
theorem sc_shared_by : FnScope N_shared_by ["one", "other"] (defScope s_shared_by) := ⟨rfl, rfl, rfl, by decide +kernel, rfl, by decide +kernel, by decide +kernel⟩
def sp_shared_by : Sp := fun vs H Q _ => ∃ a b : Int, vs = [.int a, .int b] ∧ 0 ≤ a ∧ 0 ≤ b ∧ Q (.int (Nat.gcd a.natAbs b.natAbs : Nat)) H
theorem ok_shared_by {f : Addr} {fd : FuncData} (F : L2.Fun K "shared_by" "shared_by" s_shared_by f fd) (T : Txt K mg CA p0 p1) : FnOk P w K mg base CX0 1 f fd ["one", "other"] sp_shared_by := by
  refine F.ok sc_shared_by (fun vs H Q E h => ?_) (fun cdv A outer s H vs Q E hr h => ?_)
  · obtain ⟨a, b, rfl, _⟩ := h
    rfl
  · obtain ⟨a, b, rfl, ha, hb, q⟩ := h
    refine ⟨_, (pss_cons (ps_while PassesOwn.never (pt_cmpR op_ne (pv 1) pe_int (nomark _)) (pss_one (ps_par (i := 0) (j := 1) rfl sc_shared_by.nd rfl rfl (by decide) rfl rfl (pa_cons (pv 1) (pa_cons (pe_op op_mod (pe_callTy call_int1 (by rfl) T.z_int (by decide +kernel) (pa_cons (pv 0) pa_nil)) (pv 1)) pa_nil)) rfl)))
      (pss_one (ps_ret (pv 0)))), ?_⟩
    refine while_a (fun m σ H' => ∃ x y : Int, σ = [some (.int x), some (.int y)] ∧ H' = H ∧ 0 ≤ x ∧ 0 ≤ y ∧ m = y.toNat ∧ Nat.gcd x.natAbs y.natAbs = Nat.gcd a.natAbs b.natAbs) b.toNat ⟨a, b, rfl, rfl, ha, hb, rfl, rfl⟩ ?_
    rintro m σ H' ⟨x, y, rfl, rfl, hx, hy, rfl, e⟩
    refine ⟨!decide (V.int y = V.int 0), fun Q q => ⟨_, rfl, rfl, _, rfl, q⟩, fun hb N hN => ?_, fun hb => ?_⟩
    · have hy0 : y ≠ 0 := fun z => by subst z; simp at hb
      refine ⟨_, rfl, _, rfl, .inl ⟨_, rfl, _, rfl, _, _, rfl, rfl, by show (0 : Int) < y; omega, _, _, rfl, ?_⟩⟩
      have e2 : x % y = x.fmod y := (Int.fmod_eq_emod_of_nonneg x hy).symm
      refine hN (x % y).toNat _ _ ?_ ⟨y, x % y, rfl, rfl, hy, Int.emod_nonneg _ hy0, rfl, ?_⟩
      · have := Int.emod_lt_of_pos x (show 0 < y by omega)
        have := Int.emod_nonneg x hy0
        omega
      · rw [e2, FrM.gcd_turn hx (by omega)]
        exact e
    · have hy0 : y = 0 := by simpa using hb
      subst hy0
      refine ⟨_, rfl, ?_⟩
      have e3 : (x : Int) = ((Nat.gcd a.natAbs b.natAbs : Nat) : Int) := by
        rw [← e]
        simp
        omega
      show Q (.int x) _
      rw [e3]
      exact q
/-! ### Amount.__init__ -/
abbrev s_Amount_init : Stmt := inClass (top 11) 1
abbrev N_Amount_init : List Str := ["self", "number", "under", "by"]
theorem sc_Amount_init : FnScope N_Amount_init ["self", "number", "under"] (defScope s_Amount_init) := ⟨rfl, rfl, rfl, by decide +kernel, rfl, by decide +kernel, by decide +kernel⟩
def sp_init (CA : Addr) : Sp := fun vs H Q _ => ∃ (x dx : Addr) (n u : Int), vs = [.ref x, .int n, .int u] ∧ H x = some (.ins CA dx []) ∧ H dx = some (.own x) ∧ dx ≠ x ∧ u ≠ 0 ∧ u.natAbs < 2 ^ 9000 ∧
  ∀ H', (∀ b o, b ≠ x → b ≠ dx → H b = some o → H' b = some o) → H' x = some (SlO x CA dx [some (.int (FrM.num n u)), some (.int (FrM.den n u))]) → H' dx = some (.xd []) → Q .non H'
theorem log2_9000 {u : Int} (h : u.natAbs < 2 ^ 9000) : u.natAbs.log2 < 9000 := PySem.Flt.log2_lt_of (by decide) h
theorem ok_init {f : Addr} {fd : FuncData} (F : FunD K "__init__" "Amount.__init__" (defArgs s_Amount_init) (defBody s_Amount_init) (defScope s_Amount_init) [V.int 1] [] f fd) (T : Txt K mg CA p0 p1)
    (c_is_integer : Cal P w K mg base 1 "is_integer" (sp_is_integer K CA) []) (c_shared_by : Cal P w K mg base 1 "shared_by" sp_shared_by []) : FnOk P w K mg base CX0 2 f fd ["self", "number", "under"] (sp_init CA) := by
  refine F.ok sc_Amount_init (fun vs H Q E h => ?_) (fun cdv A outer s H vs Q E hr h => ?_)
  · obtain ⟨x, dx, n, u, rfl, _⟩ := h
    rfl
  · obtain ⟨x, dx, n, u, rfl, hx, hdx, hne, hu, hb, q⟩ := h
    refine ⟨_, PSs.nox (pss_cons (ps_if (PW.pt (pw_or (pt_not (pt_val (pe_cal c_is_integer hr (by decide) rfl (pa_cons (pv 1) pa_nil)))) (pw_or (pt_not (pt_val (pe_cal c_is_integer hr (by decide) rfl (pa_cons (pv 2) pa_nil)))) (pw_or1 (pt_cmpR op_eq (pv 2) pe_int (nomark _)))))) (pss_one ps_never) pss_nil)
      (pss_cons (ps_set (i := 3) sc_Amount_init.nd rfl (Or.inl rfl) (pe_op op_mul (pe_cal c_shared_by hr (by decide) rfl (pa_cons (pe_callB call_abs (by rfl) T.z_abs (by decide +kernel) (pa_cons (pv 1) pa_nil)) (pa_cons (pe_callB call_abs (by rfl) T.z_abs (by decide +kernel) (pa_cons (pv 2) pa_nil)) pa_nil))) (pe_ifExp (pt_cmpR op_gt (pv 2) pe_int (nomark _)) pe_int (pe_un un_neg pe_int))))
      (pss_one (ps_asg (pe_tup (pa_cons (pe_op op_fdivX (pv 1) (pv 3)) (pa_cons (pe_op op_fdivX (pv 2) (pv 3)) pa_nil))) (pg_tup rfl (pgs_cons (pg_sl (pv 0)) (pgs_cons (pg_sl (pv 0)) pgs_nil))))))), ?_⟩
    refine ⟨_, rfl, _, .int, rfl, .b (.int n), _, rfl, ?_⟩
    refine iteF ?_
    refine ⟨_, rfl, _, .int, rfl, .b (.int u), _, rfl, ?_⟩
    refine iteF ?_
    refine ⟨_, rfl, rfl, _, rfl, ?_⟩
    refine iteN (decide_eq_false fun z => hu (V.int.inj z)) ?_
    refine ⟨_, rfl, _, rfl, _, rfl, _, rfl, (n.natAbs : Int), (u.natAbs : Int), by show [V.int _, V.int _] = _; rw [abs_eq, abs_eq], by omega, by omega, ?_⟩
    have eg : ((Nat.gcd ((n.natAbs : Int)).natAbs ((u.natAbs : Int)).natAbs : Nat) : Int) = (FrM.g n u : Int) := by
      unfold FrM.g
      rw [Int.natAbs_natCast, Int.natAbs_natCast]
    have hg : 0 < FrM.g n u := FrM.g_pos hu
    have hgl : FrM.g n u ≤ u.natAbs := FrM.g_le hu
    have fin : ∀ sg : Int, sg = (if 0 < u then 1 else -1) → ∀ by_ : Int, by_ = (FrM.g n u : Int) * sg → (tAsg (tTup (tCons (tOp (rI CDivX fun i j => V.int (i.fdiv j)) (tVar 1) (tVar 3)) (tCons (tOp (rI CDivX fun i j => V.int (i.fdiv j)) (tVar 2) (tVar 3)) tNil)))
        (gTup K 2 (gCons (gSl K (tVar 0) "own_number") (gCons (gSl K (tVar 0) "own_under") gNil)))) { nx := fun x H' => Q V.non H', rt := Q } [some (.ref x), some (.int n), some (.int u), some (.int by_)] H := by
      intro sg esg by_ eby
      have hb0 : by_ ≠ 0 := by
        subst eby esg
        split
        · omega
        · rw [Int.mul_neg]
          omega
      have hbl : by_.natAbs.log2 < 9000 := by
        refine log2_9000 (Nat.lt_of_le_of_lt ?_ hb)
        subst eby esg
        rw [Int.natAbs_mul, Int.natAbs_natCast]
        split <;> simpa using hgl
      refine ⟨_, rfl, _, rfl, _, _, rfl, rfl, ⟨hb0, hbl⟩, _, rfl, _, rfl, _, _, rfl, rfl, ⟨hb0, hbl⟩, by show 2 ≤ sizeLine; decide, fun p hp => ?_⟩
      have nx : x ≠ p := ne_of_none hx hp
      have nd : dx ≠ p := ne_of_none hdx hp
      refine ⟨p, _, rfl, SqT.of upd_same, rfl, _, _, rfl, _, rfl, x, CA, dx, p0, [], 0, rfl, .inl ⟨by rw [upd_ne nx]; exact hx, rfl⟩, T.am.own.cl, T.am.s0, _, _, rfl, _, rfl, x, CA, dx, p1, _, 1, rfl, slH_slt hne, T.am.own.cl, T.am.s1, rfl, ?_⟩
      refine q _ (fun b o n1 n2 e => ?_) ?_ ?_
      · rw [slH_ne n1 n2, slH_ne n1 n2, upd_ne (ne_of_none e hp)]
        exact e
      · subst eby esg
        refine Eq.trans upd_same ?_
        show some (SlO x CA dx [some (V.int (n.fdiv _)), some (V.int (u.fdiv _))]) = _
        rw [FrM.num_fdiv hu, FrM.den_fdiv hu]
      · unfold slH
        rw [upd_ne hne, upd_same]
    refine ⟨_, rfl, _, _, rfl, rfl, _, rfl, ?_⟩
    refine ite2 (fun h1 => ?_) (fun h1 => ?_)
    · refine ⟨_, _, rfl, rfl, .inr ⟨by decide, by decide⟩, ?_⟩
      exact fin 1 (if_pos (of_decide_eq_true h1)).symm _ (by rw [eg])
    · refine ⟨_, rfl, _, _, rfl, rfl, .inr ⟨by decide, by decide⟩, ?_⟩
      exact fin (-1) (if_neg fun z => h1 (decide_eq_true z)).symm _ (by rw [eg])
/-- what Amount(n, u) comes to: a new amount in least terms -/
theorem init_use {H : Hp} {n u : Int} {R : VK} {E : XK} {x dx : Addr} (hx : H x = none) (hdx : H dx = none) (hne : dx ≠ x) (hu : u ≠ 0) (hb : u.natAbs < 2 ^ 9000) (q : ∀ H', Ex H H' → Am CA H' (.ref x) (FrM.num n u) (FrM.den n u) → R .non H') :
    sp_init CA [.ref x, .int n, .int u] (upd (upd H dx (.own x)) x (.ins CA dx [])) R E := by
  refine ⟨x, dx, n, u, rfl, upd_same, by rw [upd_ne hne, upd_same], hne, hu, hb, fun H' k h1 h2 => q H' (fun a o e => ?_) ⟨x, dx, rfl, h1, h2⟩⟩
  have na := ne_of_none e hx
  have nd := ne_of_none e hdx
  refine k a o na nd ?_
  rw [upd_ne na, upd_ne nd]
  exact e
/-! ### is_amount, amount_of, sign_beside -/
abbrev s_is_amount : Stmt := top 12
abbrev N_is_amount : List Str := ["value"]
theorem sc_is_amount : FnScope N_is_amount ["value"] (defScope s_is_amount) := ⟨rfl, rfl, rfl, by decide +kernel, rfl, by decide +kernel, by decide +kernel⟩
def sp_is_amount (K : PySem.W.Frag) (CA : Addr) : Sp := fun vs H Q _ => ∃ v k, vs = [v] ∧ TyW K H v (tyk CA k) ∧ Q (.bl (decide (k = .int ∨ k = .amt))) H
theorem ok_is_amount {f : Addr} {fd : FuncData} (F : L2.Fun K "is_amount" "is_amount" s_is_amount f fd) (T : Txt K mg CA p0 p1) (c_is_integer : Cal P w K mg base 1 "is_integer" (sp_is_integer K CA) []) : FnOk P w K mg base CX0 2 f fd ["value"] (sp_is_amount K CA) := by
  refine F.ok sc_is_amount (fun vs H Q E h => ?_) (fun cdv A outer s H vs Q E hr h => ?_)
  · obtain ⟨v, k, rfl, _⟩ := h
    rfl
  · obtain ⟨v, k, rfl, ty, q⟩ := h
    refine ⟨_, (pss_one (ps_ret (pe_or (pe_cal c_is_integer hr (by decide) rfl (pa_cons (pv 0) pa_nil)) (pe_one (pe_callB call_isW (by rfl) T.z_isinstance (by decide +kernel) (pa_cons (pv 0) (pa_cons (pe_gc rfl T.g_Amount) pa_nil))))))), ?_⟩
    refine ⟨_, rfl, _, k, rfl, ty, _, rfl, ?_⟩
    by_cases hk : k = .int
    · refine iteY (decide_eq_true hk) ?_
      rw [dec_t (Or.inl hk)] at q
      exact q
    · refine iteN (decide_eq_false hk) ?_
      refine ⟨_, rfl, _, _, _, _, _, rfl, .own CA, ty, T.am.kit_me k, ?_⟩
      have e : decide (k = Kd.int ∨ k = .amt) = decide (k = .amt) := by simp [hk]
      rw [e] at q
      exact q
abbrev s_amount_of : Stmt := top 13
abbrev N_amount_of : List Str := ["value"]
theorem sc_amount_of : FnScope N_amount_of ["value"] (defScope s_amount_of) := ⟨rfl, rfl, rfl, by decide +kernel, rfl, by decide +kernel, by decide +kernel⟩
/-- an int, or an amount -/
def IsA (CA : Addr) (H : Hp) (v : V) (n d : Int) : Prop := (v = .int n ∧ d = 1) ∨ Am CA H v n d
def sp_amount_of (CA : Addr) : Sp := fun vs H Q _ => ∃ v n d, vs = [v] ∧ IsA CA H v n d ∧ ∀ v' H', Ex H H' → Am CA H' v' n d → Q v' H'
theorem ok_amount_of {f : Addr} {fd : FuncData} (F : L2.Fun K "amount_of" "amount_of" s_amount_of f fd) (T : Txt K mg CA p0 p1) (m_Amount1 : Mak P w K mg base 2 "Amount" CA (sp_init CA) [.int 1]) : FnOk P w K mg base CX0 4 f fd ["value"] (sp_amount_of CA) := by
  refine F.ok sc_amount_of (fun vs H Q E h => ?_) (fun cdv A outer s H vs Q E hr h => ?_)
  · obtain ⟨v, n, d, rfl, _⟩ := h
    rfl
  · obtain ⟨v, n, d, rfl, hv, q⟩ := h
    refine ⟨_, (pss_one (ps_ret (pe_ifExp (pt_val (pe_callB call_isW (by rfl) T.z_isinstance (by decide +kernel) (pa_cons (pv 0) (pa_cons (pe_bltn (v := .ty "int") (u := .type "int") rfl T.z_int (by decide +kernel) rfl) pa_nil)))) (pe_mak m_Amount1 hr (by decide) rfl (pa_cons (pv 0) pa_nil)) (pv 0)))), ?_⟩
    rcases hv with ⟨rfl, rfl⟩ | hv
    · refine ⟨_, rfl, _, _, _, _, _, rfl, .ty "int", .b (.int n), T.am.kit_int .int, _, rfl, ?_⟩
      refine iteY rfl ?_
      refine ⟨_, rfl, fun x dx hx hdx hne => init_use hx hdx hne (by decide) (by decide +kernel) fun H' e a => ⟨rfl, ?_⟩⟩
      rw [FrM.num_one, FrM.den_one] at a
      exact q _ H' e a
    · refine ⟨_, rfl, _, _, _, _, _, rfl, .ty "int", hv.ty T.am, T.am.kit_int .amt, _, rfl, ?_⟩
      refine iteN rfl ?_
      exact ⟨_, rfl, q v H (fun _ _ e => e) hv⟩
abbrev s_sign_beside : Stmt := top 14
abbrev N_sign_beside : List Str := ["one", "other", "its"]
theorem sc_sign_beside : FnScope N_sign_beside ["one", "other"] (defScope s_sign_beside) := ⟨rfl, rfl, rfl, by decide +kernel, rfl, by decide +kernel, by decide +kernel⟩
def sp_sign (CA : Addr) : Sp := fun vs H Q _ => ∃ v v' n d n' d', vs = [v, v'] ∧ Am CA H v n d ∧ IsA CA H v' n' d' ∧ n.natAbs < 2 ^ 4000 ∧ d.natAbs < 2 ^ 4000 ∧ n'.natAbs < 2 ^ 4000 ∧ d'.natAbs < 2 ^ 4000 ∧ ∀ H', Ex H H' → Q (.int (n * d' - n' * d)) H'
theorem mulW {i j : Int} (ha : i.natAbs < 2 ^ 4000) (hb : j.natAbs < 2 ^ 4000) : CMulW i j := wide_mul ha hb (by decide) (by decide) (by decide)
/-- e.f of an amount: its number, its under -/
theorem ok_sign_beside {f : Addr} {fd : FuncData} (F : L2.Fun K "sign_beside" "sign_beside" s_sign_beside f fd) (T : Txt K mg CA p0 p1) (c_amount_of : Cal P w K mg base 4 "amount_of" (sp_amount_of CA) []) : FnOk P w K mg base CX0 5 f fd ["one", "other"] (sp_sign CA) := by
  refine F.ok sc_sign_beside (fun vs H Q E h => ?_) (fun cdv A outer s H vs Q E hr h => ?_)
  · obtain ⟨v, v', n, d, n', d', rfl, _⟩ := h
    rfl
  · obtain ⟨v, v', n, d, n', d', rfl, hv, hv', b1, b2, b3, b4, q⟩ := h
    refine ⟨_, (pss_cons (ps_set (i := 2) sc_sign_beside.nd rfl (Or.inl rfl) (pe_cal c_amount_of hr (by decide) rfl (pa_cons (pv 1) pa_nil)))
      (pss_one (ps_ret (pe_op op_sub (pe_op op_mulW (pe_num T.am (pv 0)) (pe_den T.am (pv 2))) (pe_op op_mulW (pe_num T.am (pv 2)) (pe_den T.am (pv 0))))))), ?_⟩
    refine ⟨_, rfl, _, _, _, rfl, hv', fun x H1 e1 a1 => ?_⟩
    have a0 := hv.ext e1
    refine ⟨_, rfl, _, _, a0, _, rfl, _, _, a1, _, _, rfl, rfl, mulW b1 b4, ?_⟩
    refine ⟨_, rfl, _, _, a1, _, rfl, _, _, a0, _, _, rfl, rfl, mulW b3 b2, ?_⟩
    exact ⟨_, _, rfl, rfl, q H1 e1⟩
/-! ### the comparisons -/
abbrev s_Amount_eq : Stmt := inClass (top 11) 7
abbrev N_Amount_eq : List Str := ["self", "other"]
theorem sc_Amount_eq : FnScope N_Amount_eq ["self", "other"] (defScope s_Amount_eq) := ⟨rfl, rfl, rfl, by decide +kernel, rfl, by decide +kernel, by decide +kernel⟩
/-- bounds under which products go -/
structure Sm (n d : Int) : Prop where
  n : n.natAbs < 2 ^ 4000
  d : d.natAbs < 2 ^ 4000
def sp_eq (K : PySem.W.Frag) (CA : Addr) : Sp := fun vs H Q _ => ∃ v v' n d, vs = [v, v'] ∧ Am CA H v n d ∧ Sm n d ∧
  ((∃ n' d', IsA CA H v' n' d' ∧ Sm n' d' ∧ ∀ H', Ex H H' → Q (.bl (decide (n * d' - n' * d = 0))) H') ∨ (∃ k, TyW K H v' (tyk CA k) ∧ k ≠ .int ∧ k ≠ .amt ∧ Q (.bl false) H))
theorem IsA.ty {H : Hp} {v : V} {n d : Int} (x : IsA CA H v n d) (c : AmC K CA p0 p1) : ∃ k, TyW K H v (tyk CA k) ∧ (k = .int ∨ k = .amt) := by
  rcases x with ⟨rfl, _⟩ | x
  · exact ⟨.int, .b (.int n), .inl rfl⟩
  · exact ⟨.amt, x.ty c, .inr rfl⟩
theorem ok_eq {f : Addr} {fd : FuncData} (F : L2.Fun K "__eq__" "Amount.__eq__" s_Amount_eq f fd) (T : Txt K mg CA p0 p1) (c_is_amount : Cal P w K mg base 2 "is_amount" (sp_is_amount K CA) []) (c_sign_beside : Cal P w K mg base 5 "sign_beside" (sp_sign CA) []) :
    FnOk P w K mg base CX0 6 f fd ["self", "other"] (sp_eq K CA) := by
  refine F.ok sc_Amount_eq (fun vs H Q E h => ?_) (fun cdv A outer s H vs Q E hr h => ?_)
  · obtain ⟨v, v', n, d, rfl, _⟩ := h
    rfl
  · obtain ⟨v, v', n, d, rfl, hv, b, h⟩ := h
    refine ⟨_, (pss_one (ps_ret (pe_and (pe_cal c_is_amount hr (by decide) rfl (pa_cons (pv 1) pa_nil)) (pe_one (pe_cmpR op_eq (pe_cal c_sign_beside hr (by decide) rfl (pa_cons (pv 0) (pa_cons (pv 1) pa_nil))) pe_int (nomark _)))))), ?_⟩
    rcases h with ⟨n', d', hv', b', q⟩ | ⟨k, ty, k1, k2, q⟩
    · obtain ⟨k, ty, hk⟩ := hv'.ty T.am
      refine ⟨_, rfl, _, k, rfl, ty, _, rfl, iteY (decide_eq_true hk) ?_⟩
      refine ⟨_, rfl, _, rfl, _, _, _, _, _, _, rfl, hv, hv', b.n, b.d, b'.n, b'.d, fun H1 e1 => ⟨rfl, ?_⟩⟩
      have e : decide (V.int (n * d' - n' * d) = V.int 0) = decide (n * d' - n' * d = 0) := by
        by_cases z : n * d' - n' * d = 0
        · rw [z]
          rfl
        · rw [decide_eq_false z, decide_eq_false fun y => z (V.int.inj y)]
      show Q (.bl (decide (V.int (n * d' - n' * d) = V.int 0))) H1
      rw [e]
      exact q H1 e1
    · refine ⟨_, rfl, _, k, rfl, ty, _, rfl, iteN (decide_eq_false ?_) ?_⟩
      · rintro (z | z)
        · exact k1 z
        · exact k2 z
      · exact q
def sp_cmp (CA : Addr) (r : Int → Bool) : Sp := fun vs H Q _ => ∃ v v' n d n' d', vs = [v, v'] ∧ Am CA H v n d ∧ Sm n d ∧ IsA CA H v' n' d' ∧ Sm n' d' ∧ ∀ H', Ex H H' → Q (.bl (r (n * d' - n' * d))) H'
abbrev s_Amount_lt : Stmt := inClass (top 11) 8
abbrev N_Amount_lt : List Str := ["self", "other"]
theorem sc_Amount_lt : FnScope N_Amount_lt ["self", "other"] (defScope s_Amount_lt) := ⟨rfl, rfl, rfl, by decide +kernel, rfl, by decide +kernel, by decide +kernel⟩
theorem ok_lt {f : Addr} {fd : FuncData} (F : L2.Fun K "__lt__" "Amount.__lt__" s_Amount_lt f fd) (T : Txt K mg CA p0 p1) (c_is_amount : Cal P w K mg base 2 "is_amount" (sp_is_amount K CA) []) (c_sign_beside : Cal P w K mg base 5 "sign_beside" (sp_sign CA) []) :
    FnOk P w K mg base CX0 6 f fd ["self", "other"] (sp_cmp CA fun i => decide (i < 0)) := by
  refine F.ok sc_Amount_lt (fun vs H Q E h => ?_) (fun cdv A outer s H vs Q E hr h => ?_)
  · obtain ⟨v, v', n, d, n', d', rfl, _⟩ := h
    rfl
  · obtain ⟨v, v', n, d, n', d', rfl, hv, b, hv', b', q⟩ := h
    refine ⟨_, (pss_cons (ps_if (pt_not (pt_val (pe_cal c_is_amount hr (by decide) rfl (pa_cons (pv 1) pa_nil)))) (pss_one ps_never) pss_nil)
      (pss_one (ps_ret (pe_cmpR op_lt (pe_cal c_sign_beside hr (by decide) rfl (pa_cons (pv 0) (pa_cons (pv 1) pa_nil))) pe_int (nomark _))))), ?_⟩
    obtain ⟨k, ty, hk⟩ := hv'.ty T.am
    refine ⟨_, rfl, _, k, rfl, ty, _, rfl, iteN (by rw [decide_eq_true hk]; rfl) ?_⟩
    exact ⟨_, rfl, _, rfl, _, _, _, _, _, _, rfl, hv, hv', b.n, b.d, b'.n, b'.d, fun H1 e1 => ⟨_, _, rfl, rfl, q H1 e1⟩⟩
abbrev s_Amount_le : Stmt := inClass (top 11) 9
abbrev N_Amount_le : List Str := ["self", "other"]
theorem sc_Amount_le : FnScope N_Amount_le ["self", "other"] (defScope s_Amount_le) := ⟨rfl, rfl, rfl, by decide +kernel, rfl, by decide +kernel, by decide +kernel⟩
theorem ok_le {f : Addr} {fd : FuncData} (F : L2.Fun K "__le__" "Amount.__le__" s_Amount_le f fd) (T : Txt K mg CA p0 p1) (c_is_amount : Cal P w K mg base 2 "is_amount" (sp_is_amount K CA) []) (c_sign_beside : Cal P w K mg base 5 "sign_beside" (sp_sign CA) []) :
    FnOk P w K mg base CX0 6 f fd ["self", "other"] (sp_cmp CA fun i => decide (i ≤ 0)) := by
  refine F.ok sc_Amount_le (fun vs H Q E h => ?_) (fun cdv A outer s H vs Q E hr h => ?_)
  · obtain ⟨v, v', n, d, n', d', rfl, _⟩ := h
    rfl
  · obtain ⟨v, v', n, d, n', d', rfl, hv, b, hv', b', q⟩ := h
    refine ⟨_, (pss_cons (ps_if (pt_not (pt_val (pe_cal c_is_amount hr (by decide) rfl (pa_cons (pv 1) pa_nil)))) (pss_one ps_never) pss_nil)
      (pss_one (ps_ret (pe_cmpR op_le (pe_cal c_sign_beside hr (by decide) rfl (pa_cons (pv 0) (pa_cons (pv 1) pa_nil))) pe_int (nomark _))))), ?_⟩
    obtain ⟨k, ty, hk⟩ := hv'.ty T.am
    refine ⟨_, rfl, _, k, rfl, ty, _, rfl, iteN (by rw [decide_eq_true hk]; rfl) ?_⟩
    exact ⟨_, rfl, _, rfl, _, _, _, _, _, _, rfl, hv, hv', b.n, b.d, b'.n, b'.d, fun H1 e1 => ⟨_, _, rfl, rfl, q H1 e1⟩⟩
abbrev s_Amount_gt : Stmt := inClass (top 11) 10
abbrev N_Amount_gt : List Str := ["self", "other"]
theorem sc_Amount_gt : FnScope N_Amount_gt ["self", "other"] (defScope s_Amount_gt) := ⟨rfl, rfl, rfl, by decide +kernel, rfl, by decide +kernel, by decide +kernel⟩
theorem ok_gt {f : Addr} {fd : FuncData} (F : L2.Fun K "__gt__" "Amount.__gt__" s_Amount_gt f fd) (T : Txt K mg CA p0 p1) (c_is_amount : Cal P w K mg base 2 "is_amount" (sp_is_amount K CA) []) (c_sign_beside : Cal P w K mg base 5 "sign_beside" (sp_sign CA) []) :
    FnOk P w K mg base CX0 6 f fd ["self", "other"] (sp_cmp CA fun i => decide (0 < i)) := by
  refine F.ok sc_Amount_gt (fun vs H Q E h => ?_) (fun cdv A outer s H vs Q E hr h => ?_)
  · obtain ⟨v, v', n, d, n', d', rfl, _⟩ := h
    rfl
  · obtain ⟨v, v', n, d, n', d', rfl, hv, b, hv', b', q⟩ := h
    refine ⟨_, (pss_cons (ps_if (pt_not (pt_val (pe_cal c_is_amount hr (by decide) rfl (pa_cons (pv 1) pa_nil)))) (pss_one ps_never) pss_nil)
      (pss_one (ps_ret (pe_cmpR op_gt (pe_cal c_sign_beside hr (by decide) rfl (pa_cons (pv 0) (pa_cons (pv 1) pa_nil))) pe_int (nomark _))))), ?_⟩
    obtain ⟨k, ty, hk⟩ := hv'.ty T.am
    refine ⟨_, rfl, _, k, rfl, ty, _, rfl, iteN (by rw [decide_eq_true hk]; rfl) ?_⟩
    exact ⟨_, rfl, _, rfl, _, _, _, _, _, _, rfl, hv, hv', b.n, b.d, b'.n, b'.d, fun H1 e1 => ⟨_, _, rfl, rfl, q H1 e1⟩⟩
abbrev s_Amount_ge : Stmt := inClass (top 11) 11
abbrev N_Amount_ge : List Str := ["self", "other"]
theorem sc_Amount_ge : FnScope N_Amount_ge ["self", "other"] (defScope s_Amount_ge) := ⟨rfl, rfl, rfl, by decide +kernel, rfl, by decide +kernel, by decide +kernel⟩
theorem ok_ge {f : Addr} {fd : FuncData} (F : L2.Fun K "__ge__" "Amount.__ge__" s_Amount_ge f fd) (T : Txt K mg CA p0 p1) (c_is_amount : Cal P w K mg base 2 "is_amount" (sp_is_amount K CA) []) (c_sign_beside : Cal P w K mg base 5 "sign_beside" (sp_sign CA) []) :
    FnOk P w K mg base CX0 6 f fd ["self", "other"] (sp_cmp CA fun i => decide (0 ≤ i)) := by
  refine F.ok sc_Amount_ge (fun vs H Q E h => ?_) (fun cdv A outer s H vs Q E hr h => ?_)
  · obtain ⟨v, v', n, d, n', d', rfl, _⟩ := h
    rfl
  · obtain ⟨v, v', n, d, n', d', rfl, hv, b, hv', b', q⟩ := h
    refine ⟨_, (pss_cons (ps_if (pt_not (pt_val (pe_cal c_is_amount hr (by decide) rfl (pa_cons (pv 1) pa_nil)))) (pss_one ps_never) pss_nil)
      (pss_one (ps_ret (pe_cmpR op_ge (pe_cal c_sign_beside hr (by decide) rfl (pa_cons (pv 0) (pa_cons (pv 1) pa_nil))) pe_int (nomark _))))), ?_⟩
    obtain ⟨k, ty, hk⟩ := hv'.ty T.am
    refine ⟨_, rfl, _, k, rfl, ty, _, rfl, iteN (by rw [decide_eq_true hk]; rfl) ?_⟩
    exact ⟨_, rfl, _, rfl, _, _, _, _, _, _, rfl, hv, hv', b.n, b.d, b'.n, b'.d, fun H1 e1 => ⟨_, _, rfl, rfl, q H1 e1⟩⟩
/-! ### comparisons of amounts as rules -/
structure AmCmp (P : Program) (w : World) (K : PySem.W.Frag) (mg : Str → Option Value) (base : Heap) (CA p0 p1 : Addr) : Prop where
  am : AmC K CA p0 p1
  eq : ∃ g, PySem.W.findIn K (.ref CA) "__eq__" = some (some (.ref g)) ∧ PySem.W.isFn K (.ref g) = true ∧ FnR P w K mg base CX0 6 g (sp_eq K CA)
  lt : ∃ g, PySem.W.findIn K (.ref CA) "__lt__" = some (some (.ref g)) ∧ PySem.W.isFn K (.ref g) = true ∧ FnR P w K mg base CX0 6 g (sp_cmp CA fun i => decide (i < 0))
  le : ∃ g, PySem.W.findIn K (.ref CA) "__le__" = some (some (.ref g)) ∧ PySem.W.isFn K (.ref g) = true ∧ FnR P w K mg base CX0 6 g (sp_cmp CA fun i => decide (i ≤ 0))
  gt : ∃ g, PySem.W.findIn K (.ref CA) "__gt__" = some (some (.ref g)) ∧ PySem.W.isFn K (.ref g) = true ∧ FnR P w K mg base CX0 6 g (sp_cmp CA fun i => decide (0 < i))
  ge : ∃ g, PySem.W.findIn K (.ref CA) "__ge__" = some (some (.ref g)) ∧ PySem.W.isFn K (.ref g) = true ∧ FnR P w K mg base CX0 6 g (sp_cmp CA fun i => decide (0 ≤ i))
/-- two amounts, one at least an Amount -/
def Two (CA : Addr) (H : Hp) (x y : V) (n d n' d' : Int) : Prop := (Am CA H x n d ∧ IsA CA H y n' d') ∨ (IsA CA H x n d ∧ Am CA H y n' d')
def rCmpA (CA : Addr) (r : Int → Bool) : R2 := fun x y H Q => ∃ n d n' d', Two CA H x y n d n' d' ∧ Sm n d ∧ Sm n' d' ∧ ∀ H', Ex H H' → Q (.bl (r (n * d' - n' * d))) H'
theorem Two.cases {H : Hp} {x y : V} {n d n' d' : Int} (t : Two CA H x y n d n' d') : (Am CA H x n d ∧ IsA CA H y n' d') ∨ (x = .int n ∧ d = 1 ∧ Am CA H y n' d') := by
  rcases t with h | ⟨h | h, h2⟩
  · exact .inl h
  · exact .inr ⟨h.1, h.2, h2⟩
  · exact .inl ⟨h, .inr h2⟩
theorem neg_sub' (a b : Int) : b - a = -(a - b) := by omega
section
variable {X : Cx} {p0 p1 : Addr}
theorem opOr {op : Value → Value → Sem Value} {r r' : R2} (h : OpR X op r) (h' : OpR X op r') : OpR X op (fun x y H Q => r x y H Q ∨ r' x y H Q) := by
  intro pins s σ H x y v u Q I rx ry q
  rcases q with q | q
  · exact h pins s σ H x y v u Q I rx ry q
  · exact h' pins s σ H x y v u Q I rx ry q
theorem opImp {op : Value → Value → Sem Value} {r r' : R2} (h : OpR X op r) (f : ∀ x y H Q, r' x y H Q → r x y H Q) : OpR X op r' := fun pins s σ H x y v u Q I rx ry q => h pins s σ H x y v u Q I rx ry (f x y H Q q)
theorem op_eqA (c : AmCmp X.prog X.w X.K X.mg X.base CA p0 p1) {j : Nat} (hr : Room j X.A) (hj : 6 ≤ j) : OpR X (compareOp .Eq) (rCmpA CA fun i => decide (i = 0)) := by
  obtain ⟨g, h1, h2, F⟩ := c.eq
  refine opImp (opOr (op_fst (op := .Eq) (fun _ _ => rfl) h1 h2 F (hr.mono hj) pass0) (op_sndE c.am.own h1 h2 F (hr.mono hj) pass0)) ?_
  rintro x y H Q ⟨n, d, n', d', t, b, b', q⟩
  rcases t.cases with ⟨hx, hy⟩ | ⟨rfl, rfl, hy⟩
  · obtain ⟨a, dx, ex, sx⟩ := hx.slt
    obtain ⟨k, ty, _⟩ := hy.ty c.am
    exact .inl ⟨a, dx, _, _, ex, sx, ty, c.am.nf k, _, _, n, d, rfl, hx, b, .inl ⟨n', d', hy, b', q⟩⟩
  · obtain ⟨a, dx, ey, sy⟩ := hy.slt
    refine .inr ⟨a, dx, _, ey, sy, .int n, _, _, n', d', rfl, hy, b', .inl ⟨n, 1, .inl ⟨rfl, rfl⟩, b, fun H' e => ?_⟩⟩
    have z := q H' e
    have e2 : decide (n' * 1 - n * d' = 0) = decide (n * d' - n' * 1 = 0) := by simp only [decide_eq_decide]; omega
    rw [e2]
    exact z
theorem op_neA (c : AmCmp X.prog X.w X.K X.mg X.base CA p0 p1) {j : Nat} (hr : Room j X.A) (hj : 7 ≤ j) : OpR X (compareOp .NotEq) (rCmpA CA fun i => !decide (i = 0)) := by
  obtain ⟨g, h1, h2, F⟩ := c.eq
  refine opImp (opOr (op_fstN c.am.own h1 h2 F (hr.mono hj) pass0) (op_sndN c.am.own h1 h2 F (hr.mono hj) pass0)) ?_
  rintro x y H Q ⟨n, d, n', d', t, b, b', q⟩
  rcases t.cases with ⟨hx, hy⟩ | ⟨rfl, rfl, hy⟩
  · obtain ⟨a, dx, ex, sx⟩ := hx.slt
    obtain ⟨k, ty, _⟩ := hy.ty c.am
    exact .inl ⟨a, dx, _, _, ex, sx, ty, c.am.nf k, _, _, n, d, rfl, hx, b, .inl ⟨n', d', hy, b', fun H' e => ⟨_, rfl, q H' e⟩⟩⟩
  · obtain ⟨a, dx, ey, sy⟩ := hy.slt
    refine .inr ⟨a, dx, _, ey, sy, .int n, _, _, n', d', rfl, hy, b', .inl ⟨n, 1, .inl ⟨rfl, rfl⟩, b, fun H' e => ⟨_, rfl, ?_⟩⟩⟩
    have z := q H' e
    have e2 : decide (n' * 1 - n * d' = 0) = decide (n * d' - n' * 1 = 0) := by simp only [decide_eq_decide]; omega
    rw [e2]
    exact z
theorem op_ltA (c : AmCmp X.prog X.w X.K X.mg X.base CA p0 p1) {j : Nat} (hr : Room j X.A) (hj : 6 ≤ j) : OpR X (compareOp .Lt) (rCmpA CA fun i => decide (i < 0)) := by
  obtain ⟨g, h1, h2, F⟩ := c.lt
  obtain ⟨g', h1', h2', F'⟩ := c.gt
  refine opImp (opOr (op_fst (op := .Lt) (fun _ _ => rfl) h1 h2 F (hr.mono hj) pass0) (op_snd_lt c.am.own h1' h2' F' (hr.mono hj) pass0)) ?_
  rintro x y H Q ⟨n, d, n', d', t, b, b', q⟩
  rcases t.cases with ⟨hx, hy⟩ | ⟨rfl, rfl, hy⟩
  · obtain ⟨a, dx, ex, sx⟩ := hx.slt
    obtain ⟨k, ty, _⟩ := hy.ty c.am
    exact .inl ⟨a, dx, _, _, ex, sx, ty, c.am.nf k, _, _, n, d, n', d', rfl, hx, b, hy, b', q⟩
  · obtain ⟨a, dx, ey, sy⟩ := hy.slt
    refine .inr ⟨a, dx, _, n, ey, sy, rfl, _, _, n', d', n, 1, rfl, hy, b', .inl ⟨rfl, rfl⟩, b, fun H' e => ?_⟩
    have z := q H' e
    have e2 : (fun i : Int => decide (0 < i)) (n' * 1 - n * d') = (fun i : Int => decide (i < 0)) (n * d' - n' * 1) := by simp only [decide_eq_decide]; omega
    rw [e2]
    exact z
theorem op_leA (c : AmCmp X.prog X.w X.K X.mg X.base CA p0 p1) {j : Nat} (hr : Room j X.A) (hj : 6 ≤ j) : OpR X (compareOp .LtE) (rCmpA CA fun i => decide (i ≤ 0)) := by
  obtain ⟨g, h1, h2, F⟩ := c.le
  obtain ⟨g', h1', h2', F'⟩ := c.ge
  refine opImp (opOr (op_fst (op := .LtE) (fun _ _ => rfl) h1 h2 F (hr.mono hj) pass0) (op_snd_le c.am.own h1' h2' F' (hr.mono hj) pass0)) ?_
  rintro x y H Q ⟨n, d, n', d', t, b, b', q⟩
  rcases t.cases with ⟨hx, hy⟩ | ⟨rfl, rfl, hy⟩
  · obtain ⟨a, dx, ex, sx⟩ := hx.slt
    obtain ⟨k, ty, _⟩ := hy.ty c.am
    exact .inl ⟨a, dx, _, _, ex, sx, ty, c.am.nf k, _, _, n, d, n', d', rfl, hx, b, hy, b', q⟩
  · obtain ⟨a, dx, ey, sy⟩ := hy.slt
    refine .inr ⟨a, dx, _, n, ey, sy, rfl, _, _, n', d', n, 1, rfl, hy, b', .inl ⟨rfl, rfl⟩, b, fun H' e => ?_⟩
    have z := q H' e
    have e2 : (fun i : Int => decide (0 ≤ i)) (n' * 1 - n * d') = (fun i : Int => decide (i ≤ 0)) (n * d' - n' * 1) := by simp only [decide_eq_decide]; omega
    rw [e2]
    exact z
theorem op_gtA (c : AmCmp X.prog X.w X.K X.mg X.base CA p0 p1) {j : Nat} (hr : Room j X.A) (hj : 6 ≤ j) : OpR X (compareOp .Gt) (rCmpA CA fun i => decide (0 < i)) := by
  obtain ⟨g, h1, h2, F⟩ := c.gt
  obtain ⟨g', h1', h2', F'⟩ := c.lt
  refine opImp (opOr (op_fst (op := .Gt) (fun _ _ => rfl) h1 h2 F (hr.mono hj) pass0) (op_snd_gt c.am.own h1' h2' F' (hr.mono hj) pass0)) ?_
  rintro x y H Q ⟨n, d, n', d', t, b, b', q⟩
  rcases t.cases with ⟨hx, hy⟩ | ⟨rfl, rfl, hy⟩
  · obtain ⟨a, dx, ex, sx⟩ := hx.slt
    obtain ⟨k, ty, _⟩ := hy.ty c.am
    exact .inl ⟨a, dx, _, _, ex, sx, ty, c.am.nf k, _, _, n, d, n', d', rfl, hx, b, hy, b', q⟩
  · obtain ⟨a, dx, ey, sy⟩ := hy.slt
    refine .inr ⟨a, dx, _, n, ey, sy, rfl, _, _, n', d', n, 1, rfl, hy, b', .inl ⟨rfl, rfl⟩, b, fun H' e => ?_⟩
    have z := q H' e
    have e2 : (fun i : Int => decide (i < 0)) (n' * 1 - n * d') = (fun i : Int => decide (0 < i)) (n * d' - n' * 1) := by simp only [decide_eq_decide]; omega
    rw [e2]
    exact z
theorem op_geA (c : AmCmp X.prog X.w X.K X.mg X.base CA p0 p1) {j : Nat} (hr : Room j X.A) (hj : 6 ≤ j) : OpR X (compareOp .GtE) (rCmpA CA fun i => decide (0 ≤ i)) := by
  obtain ⟨g, h1, h2, F⟩ := c.ge
  obtain ⟨g', h1', h2', F'⟩ := c.le
  refine opImp (opOr (op_fst (op := .GtE) (fun _ _ => rfl) h1 h2 F (hr.mono hj) pass0) (op_snd_ge c.am.own h1' h2' F' (hr.mono hj) pass0)) ?_
  rintro x y H Q ⟨n, d, n', d', t, b, b', q⟩
  rcases t.cases with ⟨hx, hy⟩ | ⟨rfl, rfl, hy⟩
  · obtain ⟨a, dx, ex, sx⟩ := hx.slt
    obtain ⟨k, ty, _⟩ := hy.ty c.am
    exact .inl ⟨a, dx, _, _, ex, sx, ty, c.am.nf k, _, _, n, d, n', d', rfl, hx, b, hy, b', q⟩
  · obtain ⟨a, dx, ey, sy⟩ := hy.slt
    refine .inr ⟨a, dx, _, n, ey, sy, rfl, _, _, n', d', n, 1, rfl, hy, b', .inl ⟨rfl, rfl⟩, b, fun H' e => ?_⟩
    have z := q H' e
    have e2 : (fun i : Int => decide (i ≤ 0)) (n' * 1 - n * d') = (fun i : Int => decide (0 ≤ i)) (n * d' - n' * 1) := by simp only [decide_eq_decide]; omega
    rw [e2]
    exact z
/-- values that are no amounts, beside an Amount -/
def Odd (K : PySem.W.Frag) (CA : Addr) (H : Hp) (y : V) : Prop := Left H y ∧ ∃ k, TyW K H y (tyk CA k) ∧ k ≠ .int ∧ k ≠ .amt
def rUnl (K : PySem.W.Frag) (CA : Addr) (b : Bool) : R2 := fun x y H Q => ((∃ n d, Am CA H x n d ∧ Sm n d ∧ Odd K CA H y) ∨ (∃ n d, Odd K CA H x ∧ Am CA H y n d ∧ Sm n d)) ∧ Q (.bl b) H
theorem op_eqU (c : AmCmp X.prog X.w X.K X.mg X.base CA p0 p1) {j : Nat} (hr : Room j X.A) (hj : 6 ≤ j) : OpR X (compareOp .Eq) (rUnl X.K CA false) := by
  obtain ⟨g, h1, h2, F⟩ := c.eq
  refine opImp (opOr (op_fst (op := .Eq) (fun _ _ => rfl) h1 h2 F (hr.mono hj) pass0) (op_sndE c.am.own h1 h2 F (hr.mono hj) pass0)) ?_
  rintro x y H Q ⟨⟨n, d, hx, b, l, k, ty, k1, k2⟩ | ⟨n, d, ⟨l, k, ty, k1, k2⟩, hy, b⟩, q⟩
  · obtain ⟨a, dx, ex, sx⟩ := hx.slt
    exact .inl ⟨a, dx, _, _, ex, sx, ty, c.am.nf k, _, _, n, d, rfl, hx, b, .inr ⟨k, ty, k1, k2, q⟩⟩
  · obtain ⟨a, dx, ey, sy⟩ := hy.slt
    exact .inr ⟨a, dx, _, ey, sy, l, _, _, n, d, rfl, hy, b, .inr ⟨k, ty, k1, k2, q⟩⟩
theorem op_neU (c : AmCmp X.prog X.w X.K X.mg X.base CA p0 p1) {j : Nat} (hr : Room j X.A) (hj : 7 ≤ j) : OpR X (compareOp .NotEq) (rUnl X.K CA true) := by
  obtain ⟨g, h1, h2, F⟩ := c.eq
  refine opImp (opOr (op_fstN c.am.own h1 h2 F (hr.mono hj) pass0) (op_sndN c.am.own h1 h2 F (hr.mono hj) pass0)) ?_
  rintro x y H Q ⟨⟨n, d, hx, b, l, k, ty, k1, k2⟩ | ⟨n, d, ⟨l, k, ty, k1, k2⟩, hy, b⟩, q⟩
  · obtain ⟨a, dx, ex, sx⟩ := hx.slt
    exact .inl ⟨a, dx, _, _, ex, sx, ty, c.am.nf k, _, _, n, d, rfl, hx, b, .inr ⟨k, ty, k1, k2, _, rfl, q⟩⟩
  · obtain ⟨a, dx, ey, sy⟩ := hy.slt
    exact .inr ⟨a, dx, _, ey, sy, l, _, _, n, d, rfl, hy, b, .inr ⟨k, ty, k1, k2, _, rfl, q⟩⟩
end
/-! ### the law's draws -/
abbrev s_law_jar : Stmt := top 19
abbrev N_law_jar : List Str := ["_law_script", "_law_k", "_law_cell", "_law_own", "_law_mixed"]
theorem sc_law_jar : FnScope N_law_jar ["_law_script", "_law_k"] (defScope s_law_jar) := ⟨rfl, rfl, rfl, by decide +kernel, rfl, by decide +kernel, by decide +kernel⟩
def sp_jar (K : PySem.W.Frag) : Sp := fun vs H Q _ => ∃ (a : Addr) (k : Int) (ns : List Int), vs = [.ref a, .int k] ∧ SqL K H a (ns.map V.int) ∧ 0 ≤ k ∧ k ≤ 100 ∧ ∀ p H', H p = none → Ex H H' → Jar H' p 1000000000 → Q (.ref p) H'
theorem big_pos : (0 : Int) < ((10 : Int) ^ (60 : Int).toNat) ^ (5 : Int).toNat := by decide +kernel
theorem big_lt : ((10 : Int) ^ (60 : Int).toNat) ^ (5 : Int).toNat < 2 ^ 1000 := by decide +kernel
theorem big_pow : CPowW ((10 : Int) ^ (60 : Int).toNat) 5 := by
  unfold CPowW
  decide +kernel
theorem b01 (b : Bool) : -(2 ^ 64) < (if b = true then (1 : Int) else 0) ∧ (if b = true then (1 : Int) else 0) < 2 ^ 64 := by cases b <;> decide
theorem b01m {x m : Int} (h0 : 0 ≤ x) (h1 : x < m) (b : Bool) : 0 ≤ x * (if b = true then (1 : Int) else 0) ∧ x * (if b = true then (1 : Int) else 0) < m := by
  cases b
  · rw [if_neg Bool.false_ne_true, Int.mul_zero]
    exact ⟨Int.le_refl _, Int.lt_of_le_of_lt h0 h1⟩
  · rw [if_pos rfl, Int.mul_one]
    exact ⟨h0, h1⟩
theorem ok_jar {f : Addr} {fd : FuncData} (F : L2.Fun K "_law_jar" "_law_jar" s_law_jar f fd) (T : Txt K mg CA p0 p1) : FnOk P w K mg base CX0 1 f fd ["_law_script", "_law_k"] (sp_jar K) := by
  refine F.ok sc_law_jar (fun vs H Q E h => ?_) (fun cdv A outer s H vs Q E hr h => ?_)
  · obtain ⟨a, k, ns, rfl, _⟩ := h
    rfl
  · obtain ⟨a, k, ns, rfl, hS, h0, h1, q⟩ := h
    refine ⟨_, (pss_cons (ps_set (i := 2) sc_law_jar.nd rfl (Or.inl rfl) (pe_ifExp (pt_cmpR op_lt (pv 1) (pe_callB call_len_seq (by rfl) T.z_len PySem.boot_len (pa_cons (pv 0) pa_nil)) (nomark _)) (pe_ix ix_list (pv 0) (pv 1) (fun _ _ => rfl)) (pe_op op_add (pe_op op_mul pe_int (pv 1)) pe_int)))
      (pss_cons (ps_set (i := 3) sc_law_jar.nd rfl (Or.inl rfl) (pe_op op_mul (pe_op op_mod (pe_callTy call_int1 (by rfl) T.z_int (by decide +kernel) (pa_cons (pe_callB call_abs (by rfl) T.z_abs (by decide +kernel) (pa_cons (pv 2) pa_nil)) pa_nil)) (pe_op op_powW (pe_op op_pow pe_int pe_int) pe_int)) (pe_callTy call_int1 (by rfl) T.z_int (by decide +kernel) (pa_cons (pe_cmpR op_ge (pe_callB call_abs (by rfl) T.z_abs (by decide +kernel) (pa_cons (pv 2) pa_nil)) (pe_op op_pow pe_int pe_int) (nomark _)) pa_nil))))
      (pss_cons (ps_set (i := 4) sc_law_jar.nd rfl (Or.inl rfl) (pe_callTy call_int1 (by rfl) T.z_int (by decide +kernel) (pa_cons (pe_op op_add (pe_op op_add (pe_op op_mul (pe_op op_mod (pe_callTy call_int1 (by rfl) T.z_int (by decide +kernel) (pa_cons (pv 2) pa_nil)) pe_int) pe_int) (pe_op op_mul (pe_op op_mul pe_int (pv 1)) (pv 1))) pe_int) pa_nil)))
      (pss_one (ps_ret (pe_lst (pa_cons (pv 3) (pa_cons (pe_op op_mod (pv 4) pe_int) (pa_cons pe_int pa_nil))))))))), ?_⟩
    -- which cell
    have cut : ∀ (t u : TS) (D : Ends) (σ : L2.St) (Hh : Hp) (e : TE), (∀ Q : VK, (∀ c : Int, Q (.int c) Hh) → e σ Hh Q) → (∀ c : Int, u D (σ.set 2 (some (.int c))) Hh) → tSeq (tAsg e (gName 2)) u D σ Hh := fun _ u D σ Hh e he hu => he _ hu
    refine cut tNext _ _ _ _ _ (fun Q' q' => ?_) (fun c => ?_)
    · refine ⟨_, rfl, _, rfl, _, _, rfl, .inl hS, _, _, rfl, rfl, _, rfl, ?_⟩
      refine ite2 (fun h => ?_) (fun _ => ?_)
      · have hk : k.toNat < ns.length := by
          have := of_decide_eq_true h
          rw [List.length_map] at this
          omega
        have ek : k = ((k.toNat : Nat) : Int) := by omega
        refine ⟨_, rfl, _, rfl, a, _, _, .int ns[k.toNat], rfl, rfl, hS, ?_, q' _⟩
        have ea := atI_nat (xs := ns.map V.int) (j := k.toNat) (v := .int ns[k.toNat]) (by rw [List.getElem?_map, List.getElem?_eq_getElem hk]; rfl)
        rw [← ek] at ea
        exact ea
      · exact ⟨_, rfl, _, _, rfl, rfl, .inl ⟨by decide, by decide⟩, _, _, rfl, rfl, q' _⟩
    · -- own
      refine ⟨_, rfl, _, rfl, .inl ⟨_, rfl, _, _, rfl, rfl, ⟨by decide, by decide, by decide⟩, _, _, rfl, rfl, big_pow, _, _, rfl, rfl, big_pos, ?_⟩⟩
      refine ⟨_, rfl, _, rfl, _, _, rfl, rfl, ⟨by decide, by decide, by decide⟩, _, _, rfl, rfl, .inr ⟨_, rfl, ?_⟩⟩
      refine ⟨_, _, rfl, rfl, .inr (b01 _), ?_⟩
      -- mixed
      refine ⟨_, rfl, .inl ⟨_, rfl, _, _, rfl, rfl, by show (0 : Int) < 2305843009213693951; decide, _, _, rfl, rfl, .inr ⟨by decide, by decide⟩, ?_⟩⟩
      refine ⟨_, rfl, _, _, rfl, rfl, .inl ⟨by decide, by decide⟩, _, rfl, _, _, rfl, rfl, .inr ⟨by omega, by omega⟩, _, _, rfl, rfl, _, _, rfl, rfl, .inl ⟨_, rfl, ?_⟩⟩
      refine ⟨_, rfl, _, rfl, _, _, rfl, rfl, by show (0 : Int) < 2305843009213693921; decide, by show 3 ≤ sizeLine; decide, fun p hp => ?_⟩
      refine q p _ hp (Evl.Ex.new hp) ⟨_, _, _, upd_same, ?_⟩
      have n1 := Int.emod_nonneg (if c < 0 then -c else c) (Int.ne_of_gt big_pos)
      have n2 := Int.emod_lt_of_pos (if c < 0 then -c else c) big_pos
      have n3 := big_lt
      have n4 : ∀ x : Int, 0 ≤ x % 2305843009213693921 ∧ x % 2305843009213693921 < 2 ^ 62 := fun x => by omega
      exact ⟨(b01m n1 (Int.lt_trans n2 n3) _).1, (b01m n1 (Int.lt_trans n2 n3) _).2, (n4 _).1, (n4 _).2, by decide, by decide⟩
abbrev s_law_take : Stmt := top 20
abbrev N_law_take : List Str := ["_law_jar_here", "_law_upto", "_law_digit", "_law_prime", "_law_mixed"]
theorem sc_law_take : FnScope N_law_take ["_law_jar_here", "_law_upto"] (defScope s_law_take) := ⟨rfl, rfl, rfl, by decide +kernel, rfl, by decide +kernel, by decide +kernel⟩
def sp_take : Sp := fun vs H Q _ => ∃ (p : Addr) (m : Int) (n : Nat), vs = [.ref p, .int m] ∧ 0 < m ∧ m < 1073741824 ∧ Jar H p (n + 1) ∧ ∀ i H', 0 ≤ i → i < m → Keep p H H' → Jar H' p n → Q (.int i) H'
theorem pow3 {x : Int} (h : x.natAbs < 2 ^ 100) : CPowW x 3 := by
  have h1 : x.natAbs.log2 < 100 := PySem.Flt.log2_lt_of (by decide) h
  have h2 : Builtin.Int.intBits x ≤ x.natAbs.log2 + 1 := by
    unfold Builtin.Int.intBits
    split <;> omega
  refine ⟨by decide, ?_⟩
  have h3 : (Builtin.Int.intBits x : Int) * 3 ≤ 303 := by omega
  exact Int.le_trans h3 (by decide)
theorem five (c : Int) (a b d e f : Int) : ∃ v, atI [V.int a, V.int b, V.int d, V.int e, V.int f] (c % 5) = some (.int v) ∧ (v = a ∨ v = b ∨ v = d ∨ v = e ∨ v = f) := by
  have h : c % 5 = 0 ∨ c % 5 = 1 ∨ c % 5 = 2 ∨ c % 5 = 3 ∨ c % 5 = 4 := by omega
  rcases h with h | h | h | h | h <;> rw [h]
  · exact ⟨a, rfl, .inl rfl⟩
  · exact ⟨b, rfl, .inr (.inl rfl)⟩
  · exact ⟨d, rfl, .inr (.inr (.inl rfl))⟩
  · exact ⟨e, rfl, .inr (.inr (.inr (.inl rfl)))⟩
  · exact ⟨f, rfl, .inr (.inr (.inr (.inr rfl)))⟩
theorem ok_take {f : Addr} {fd : FuncData} (F : L2.Fun K "_law_take" "_law_take" s_law_take f fd) (T : Txt K mg CA p0 p1) : FnOk P w K mg base CX0 1 f fd ["_law_jar_here", "_law_upto"] sp_take := by
  refine F.ok sc_law_take (fun vs H Q E h => ?_) (fun cdv A outer s H vs Q E hr h => ?_)
  · obtain ⟨p, m, n, rfl, _⟩ := h
    rfl
  · obtain ⟨p, m, n, rfl, hm, hm2, ⟨a, b, c, hj, ha, ha2, hb, hb2, hc, hc2⟩, q⟩ := h
    refine ⟨_, (pss_cons (ps_if (pt_cmpR op_gt (pe_ix ix_list (pv 0) pe_int (fun _ _ => rfl)) pe_int (nomark _)) (pss_cons (ps_set (i := 2) sc_law_take.nd rfl (Or.inl rfl) (pe_op op_mod (pe_callTy call_int1 (by rfl) T.z_int (by decide +kernel) (pa_cons (pe_ix ix_list (pv 0) pe_int (fun _ _ => rfl)) pa_nil)) (pv 1)))
      (pss_cons (ps_asg (pe_op op_fdiv (pe_ix ix_list (pv 0) pe_int (fun _ _ => rfl)) (pv 1)) (pg_sub (pv 0) pe_int set_list))
      (pss_one (ps_ret (pv 2))))) pss_nil)
      (pss_cons (ps_asg (pe_op op_add (pe_ix ix_list (pv 0) pe_int (fun _ _ => rfl)) pe_int) (pg_sub (pv 0) pe_int set_list))
      (pss_cons (ps_set (i := 3) sc_law_take.nd rfl (Or.inl rfl) (pe_ix ix_list (pe_lst (pa_cons pe_int (pa_cons pe_int (pa_cons pe_int (pa_cons pe_int (pa_cons pe_int pa_nil)))))) (pe_op op_mod (pe_callTy call_int1 (by rfl) T.z_int (by decide +kernel) (pa_cons (pe_ix ix_list (pv 0) pe_int (fun _ _ => rfl)) pa_nil)) pe_int) (fun _ _ => rfl)))
      (pss_cons (ps_set (i := 4) sc_law_take.nd rfl (Or.inl rfl) (pe_op op_mod (pe_callTy call_int1 (by rfl) T.z_int (by decide +kernel) (pa_cons (pe_op op_powW (pe_callTy call_int1 (by rfl) T.z_int (by decide +kernel) (pa_cons (pe_op op_add (pe_op op_add (pe_ix ix_list (pv 0) pe_int (fun _ _ => rfl)) (pe_op op_mul (pe_op op_mul pe_int (pe_ix ix_list (pv 0) pe_int (fun _ _ => rfl))) (pe_ix ix_list (pv 0) pe_int (fun _ _ => rfl)))) pe_int) pa_nil)) pe_int) pa_nil)) (pv 3)))
      (pss_one (ps_ret (pe_op op_mod (pe_callTy call_int1 (by rfl) T.z_int (by decide +kernel) (pa_cons (pe_op op_fdiv (pe_op op_mul (pv 4) (pe_op op_add (pe_op op_mod (pe_callTy call_int1 (by rfl) T.z_int (by decide +kernel) (pa_cons (pv 4) pa_nil)) pe_int) (pe_op op_mul pe_int (pe_ix ix_list (pv 0) pe_int (fun _ _ => rfl))))) pe_int) pa_nil)) (pv 1)))))))), ?_⟩
    have hm0 : m ≠ 0 := by omega
    refine ⟨_, rfl, p, _, _, _, rfl, rfl, SqL.of hj, rfl, _, _, rfl, rfl, _, rfl, ?_⟩
    refine ite2 (fun h => ?_) (fun _ => ?_)
    · refine ⟨_, rfl, p, _, _, _, rfl, rfl, SqL.of hj, rfl, .inl ⟨_, rfl, _, rfl, _, _, rfl, rfl, hm, ?_⟩⟩
      refine ⟨_, rfl, p, _, _, _, rfl, rfl, SqL.of hj, rfl, _, rfl, _, _, rfl, rfl, ⟨hm, hm2⟩, _, rfl, p, _, _, 0, rfl, rfl, hj, rfl, ?_⟩
      refine ⟨_, rfl, q _ _ (Int.emod_nonneg _ hm0) (Int.emod_lt_of_pos _ hm) (Keep.refl _ _).upd ⟨_, b, c, upd_same, Int.ediv_nonneg ha (by omega), ?_, hb, hb2, hc, by omega⟩⟩
      exact Int.lt_of_le_of_lt (Int.ediv_le_self m ha) ha2
    · -- jar[2] = jar[2] + 1
      refine ⟨_, rfl, p, _, _, _, rfl, rfl, SqL.of hj, rfl, _, _, rfl, rfl, _, rfl, p, _, _, 2, rfl, rfl, hj, rfl, ?_⟩
      have hj1 : upd H p (.lst [.int a, .int b, .int (c + 1)]) p = some (.lst [.int a, .int b, .int (c + 1)]) := upd_same
      -- the prime
      refine ⟨by show 5 ≤ sizeLine; decide, fun l hl => ?_⟩
      have np : p ≠ l := ne_of_none hj1 hl
      have hj2 : ∀ o, upd (upd H p (.lst [.int a, .int b, .int (c + 1)])) l o p = some (.lst [.int a, .int b, .int (c + 1)]) := fun o => by rw [upd_ne np]; exact hj1
      obtain ⟨v, ev, hv⟩ := five (c + 1) 2147483647 2147483629 2147483587 2147483579 2147483563
      have hv1 : 0 < v ∧ v < 2147483648 := by omega
      refine ⟨_, rfl, p, _, _, _, rfl, rfl, SqL.of (hj2 _), rfl, .inl ⟨_, rfl, _, _, rfl, rfl, by show (0 : Int) < 5; decide, l, _, _, _, rfl, rfl, SqL.of upd_same, ev, ?_⟩⟩
      -- mixed
      refine ⟨_, rfl, p, _, _, _, rfl, rfl, SqL.of (hj2 _), rfl, _, rfl, p, _, _, _, rfl, rfl, SqL.of (hj2 _), rfl, _, _, rfl, rfl, .inl ⟨by decide, by decide⟩, ?_⟩
      refine ⟨_, rfl, p, _, _, _, rfl, rfl, SqL.of (hj2 _), rfl, _, _, rfl, rfl, .inr ⟨by omega, by omega⟩, _, _, rfl, rfl, _, _, rfl, rfl, .inl ⟨_, rfl, ?_⟩⟩
      refine ⟨_, _, rfl, rfl, pow3 ?_, .inl ⟨_, rfl, _, rfl, _, _, rfl, rfl, hv1.1, ?_⟩⟩
      · have hc3 : (c + 1) * (c + 1) ≤ 1000000001 * 1000000001 := Int.mul_le_mul (by omega) (by omega) (by omega) (by omega)
        have hc4 : 0 ≤ (c + 1) * (c + 1) := Int.mul_nonneg (by omega) (by omega)
        rw [Int.mul_assoc]
        omega
      have hmix := fun x : Int => And.intro (Int.emod_nonneg x (show v ≠ 0 by omega)) (Int.emod_lt_of_pos x hv1.1)
      refine ⟨_, rfl, _, rfl, .inl ⟨_, rfl, _, _, rfl, rfl, by show (0 : Int) < 10007; decide, _, rfl, p, _, _, _, rfl, rfl, SqL.of (hj2 _), rfl, _, _, rfl, rfl, .inl ⟨by decide, by decide⟩, ?_⟩⟩
      refine ⟨_, _, rfl, rfl, _, _, rfl, rfl, .inl ⟨Int.lt_of_lt_of_le (by decide) (hmix _).1, Int.lt_trans (hmix _).2 (by omega)⟩, _, _, rfl, rfl, ⟨by decide, by decide⟩, .inl ⟨_, rfl, _, rfl, _, _, rfl, rfl, hm, ?_⟩⟩
      exact q _ _ (Int.emod_nonneg _ hm0) (Int.emod_lt_of_pos _ hm) ((Keep.refl _ _).upd.new hl) ⟨a, b, c + 1, hj2 _, ha, ha2, hb, hb2, by omega, by omega⟩
abbrev s_law_of : Stmt := top 21
abbrev N_law_of : List Str := ["_law_jar_here", "_law_some"]
theorem sc_law_of : FnScope N_law_of ["_law_jar_here", "_law_some"] (defScope s_law_of) := ⟨rfl, rfl, rfl, by decide +kernel, rfl, by decide +kernel, by decide +kernel⟩
def sp_of (K : PySem.W.Frag) : Sp := fun vs H Q _ => ∃ (p l : Addr) (n : Nat) (xs : List V), vs = [.ref p, .ref l] ∧ Jar H p (n + 1) ∧ H l = some (.lst xs) ∧ l ≠ p ∧ 0 < xs.length ∧ xs.length < 1073741824 ∧ ∀ (i : Nat) x H', xs[i]? = some x → Keep p H H' → Jar H' p n → Q x H'
theorem ok_of {f : Addr} {fd : FuncData} (F : L2.Fun K "_law_of" "_law_of" s_law_of f fd) (T : Txt K mg CA p0 p1) (c_law_take : Cal P w K mg base 1 "_law_take" sp_take []) : FnOk P w K mg base CX0 2 f fd ["_law_jar_here", "_law_some"] (sp_of K) := by
  refine F.ok sc_law_of (fun vs H Q E h => ?_) (fun cdv A outer s H vs Q E hr h => ?_)
  · obtain ⟨p, l, n, xs, rfl, _⟩ := h
    rfl
  · obtain ⟨p, l, n, xs, rfl, hj, hl, hne, h1, h2, q⟩ := h
    refine ⟨_, (pss_one (ps_ret (pe_ix ix_list (pv 1) (pe_cal c_law_take hr (by decide) rfl (pa_cons (pv 0) (pa_cons (pe_callB call_len_seq (by rfl) T.z_len PySem.boot_len (pa_cons (pv 1) pa_nil)) pa_nil))) (fun _ _ => rfl)))), ?_⟩
    refine ⟨_, rfl, _, rfl, _, rfl, _, _, rfl, .inl (SqL.of hl), p, _, n, rfl, by omega, by omega, hj, fun i H' i0 i1 k j => ?_⟩
    have hi : i.toNat < xs.length := by omega
    have ei : i = ((i.toNat : Nat) : Int) := by omega
    have ea := atI_nat (xs := xs) (j := i.toNat) (v := xs[i.toNat]) (List.getElem?_eq_getElem hi)
    rw [← ei] at ea
    exact ⟨l, xs, _, _, rfl, rfl, SqL.of (k l _ hne hl), ea, q i.toNat _ H' (List.getElem?_eq_getElem hi) k j⟩
/-! ### the law's own fractions -/
abbrev s_law_frac : Stmt := top 22
abbrev N_law_frac : List Str := ["_law_number", "_law_under", "_law_one", "_law_other", "_law_sign"]
theorem sc_law_frac : FnScope N_law_frac ["_law_number", "_law_under"] (defScope s_law_frac) := ⟨rfl, rfl, rfl, by decide +kernel, rfl, by decide +kernel, by decide +kernel⟩
def sp_frac : Sp := fun vs H Q _ => ∃ n u : Int, vs = [.int n, .int u] ∧ u ≠ 0 ∧ u.natAbs < 2 ^ 9000 ∧ ∀ p H', H p = none → Ex H H' → H' p = some (.tup [.int (FrM.num n u), .int (FrM.den n u)]) → Q (.ref p) H'
theorem ok_frac {f : Addr} {fd : FuncData} (F : L2.Fun K "_law_frac" "_law_frac" s_law_frac f fd) (T : Txt K mg CA p0 p1) : FnOk P w K mg base CX0 1 f fd ["_law_number", "_law_under"] sp_frac := by
  refine F.ok sc_law_frac (fun vs H Q E h => ?_) (fun cdv A outer s H vs Q E hr h => ?_)
  · obtain ⟨n, u, rfl, _⟩ := h
    rfl
  · obtain ⟨n, u, rfl, hu, hb, q⟩ := h
    refine ⟨_, (pss_cons (ps_par (i := 2) (j := 3) rfl sc_law_frac.nd rfl rfl (by decide) rfl rfl (pa_cons (pe_callB call_abs (by rfl) T.z_abs (by decide +kernel) (pa_cons (pv 0) pa_nil)) (pa_cons (pe_callB call_abs (by rfl) T.z_abs (by decide +kernel) (pa_cons (pv 1) pa_nil)) pa_nil)) rfl)
      (pss_cons (ps_while PassesOwn.never (pt_cmpR op_gt (pv 3) pe_int (nomark _)) (pss_one (ps_par (i := 2) (j := 3) rfl sc_law_frac.nd rfl rfl (by decide) rfl rfl (pa_cons (pv 3) (pa_cons (pe_op op_mod (pe_callTy call_int1 (by rfl) T.z_int (by decide +kernel) (pa_cons (pv 2) pa_nil)) (pe_callTy call_int1 (by rfl) T.z_int (by decide +kernel) (pa_cons (pv 3) pa_nil))) pa_nil)) rfl)))
      (pss_cons (ps_set (i := 4) sc_law_frac.nd rfl (Or.inl rfl) (pe_ifExp (pt_cmpR op_gt (pv 1) pe_int (nomark _)) pe_int (pe_un un_neg pe_int)))
      (pss_one (ps_ret (pe_tup (pa_cons (pe_op op_fdivX (pe_op op_mul (pv 4) (pv 0)) (pv 2)) (pa_cons (pe_op op_fdivX (pe_op op_mul (pv 4) (pv 1)) (pv 2)) pa_nil)))))))), ?_⟩
    refine ⟨_, rfl, _, rfl, _, rfl, _, rfl, _, _, rfl, ?_⟩
    have hg : 0 < FrM.g n u := FrM.g_pos hu
    have hgl : FrM.g n u ≤ u.natAbs := FrM.g_le hu
    refine while_a (fun m σ H' => ∃ x y : Int, σ = [some (.int n), some (.int u), some (.int x), some (.int y), none] ∧ H' = H ∧ 0 ≤ x ∧ 0 ≤ y ∧ m = y.toNat ∧ Nat.gcd x.natAbs y.natAbs = FrM.g n u) ((u.natAbs : Int).toNat) ⟨(n.natAbs : Int), (u.natAbs : Int), by rw [← abs_eq n, ← abs_eq u]; rfl, rfl, by omega, by omega, rfl, by unfold FrM.g; rw [Int.natAbs_natCast, Int.natAbs_natCast]⟩ ?_
    rintro m σ H' ⟨x, y, rfl, rfl, hx, hy, rfl, e⟩
    refine ⟨decide (0 < y), fun Q q => ⟨_, rfl, _, _, rfl, rfl, _, rfl, q⟩, fun hb1 N hN => ?_, fun hb1 => ?_⟩
    · have hy0 : 0 < y := of_decide_eq_true hb1
      refine ⟨_, rfl, _, rfl, .inl ⟨_, rfl, _, rfl, .inl ⟨_, rfl, _, _, rfl, rfl, hy0, _, _, rfl, ?_⟩⟩⟩
      have e2 : x % y = x.fmod y := (Int.fmod_eq_emod_of_nonneg x hy).symm
      have h1 := Int.emod_lt_of_pos x hy0
      have h2 := Int.emod_nonneg x (show y ≠ 0 by omega)
      refine hN (x % y).toNat _ _ (by omega) ⟨y, x % y, rfl, rfl, hy, h2, rfl, ?_⟩
      rw [e2, FrM.gcd_turn hx hy0]
      exact e
    · have hy0 : y = 0 := by have := of_decide_eq_false hb1; omega
      subst hy0
      have ex : (x : Int) = (FrM.g n u : Int) := by
        rw [← e]
        simp
        omega
      have hbl : x.natAbs.log2 < 9000 := log2_9000 (by rw [ex, Int.natAbs_natCast]; exact Nat.lt_of_le_of_lt hgl hb)
      have fin : ∀ sg : Int, sg = (if 0 < u then 1 else -1) → (tRet (tTup (tCons (tOp (rI CDivX fun i j => V.int (i.fdiv j)) (tOp (rI CMul fun i j => V.int (i * j)) (tVar 4) (tVar 0)) (tVar 2)) (tCons (tOp (rI CDivX fun i j => V.int (i.fdiv j)) (tOp (rI CMul fun i j => V.int (i * j)) (tVar 4) (tVar 1)) (tVar 2)) tNil)))) { nx := fun x H' => Q V.non H', rt := Q } [some (.int n), some (.int u), some (.int x), some (.int 0), some (.int sg)] H' := by
        intro sg esg
        have hs : -(2 ^ 64) < sg ∧ sg < 2 ^ 64 := by
          rw [esg]
          split <;> decide
        refine ⟨_, rfl, _, rfl, _, _, rfl, rfl, .inl hs, _, rfl, _, _, rfl, rfl, ⟨by omega, hbl⟩, _, rfl, _, rfl, _, _, rfl, rfl, .inl hs, _, rfl, _, _, rfl, rfl, ⟨by omega, hbl⟩, by show 2 ≤ sizeLine; decide, fun p hp => ?_⟩
        refine q p _ hp (Evl.Ex.new hp) (upd_same.trans ?_)
        show some (HO.tup [V.int ((sg * n).fdiv x), V.int ((sg * u).fdiv x)]) = _
        rw [ex, esg, FrM.num_law hu, FrM.den_law hu]
      refine ⟨_, rfl, _, _, rfl, rfl, _, rfl, ?_⟩
      refine ite2 (fun h1 => ?_) (fun h1 => ?_)
      · exact fin 1 (if_pos (of_decide_eq_true h1)).symm
      · exact ⟨_, rfl, fin (-1) (if_neg fun z => h1 (decide_eq_true z)).symm⟩

end
end Lw

namespace Lw
open PySem PySem.Spec PyProof.Rows L2 SlX WU
open Evl (Ex)
section
variable {P : Program} {w : World} {K : PySem.W.Frag} {mg : Str → Option Value} {base : Heap} {CA p0 p1 : Addr}
abbrev s_law_is_less : Stmt := top 23
abbrev N_law_is_less : List Str := ["_law_one", "_law_other"]
theorem sc_law_is_less : FnScope N_law_is_less ["_law_one", "_law_other"] (defScope s_law_is_less) := ⟨rfl, rfl, rfl, by decide +kernel, rfl, by decide +kernel, by decide +kernel⟩
/-- a pair of ints at p -/
def Pr (H : Hp) (p : Addr) (n d : Int) : Prop := H p = some (.tup [.int n, .int d])
theorem Pr.keep {H H' : Hp} {p q : Addr} {n d : Int} {m : Nat} (x : Pr H q n d) (k : Keep p H H') (j : Jar H p m) : Pr H' q n d := k.at j x (fun _ z => nomatch z)
theorem Pr.ext {H H' : Hp} {q : Addr} {n d : Int} (x : Pr H q n d) (e : Ex H H') : Pr H' q n d := e _ _ x
/-- bounds of nine figures -/
structure B9 (n d : Int) : Prop where
  n : n.natAbs ≤ 999999999
  d : d.natAbs ≤ 999999999
theorem B9.sm {n d : Int} (b : B9 n d) : Sm n d := ⟨Nat.lt_of_le_of_lt b.n (by decide +kernel), Nat.lt_of_le_of_lt b.d (by decide +kernel)⟩
def sp_is_less : Sp := fun vs H Q _ => ∃ (p q : Addr) (n d n' d' : Int), vs = [.ref p, .ref q] ∧ Pr H p n d ∧ Pr H q n' d' ∧ B9 n d ∧ B9 n' d' ∧ Q (.bl (decide (n * d' < n' * d))) H
theorem ok_is_less {f : Addr} {fd : FuncData} (F : L2.Fun K "_law_is_less" "_law_is_less" s_law_is_less f fd) (T : Txt K mg CA p0 p1) : FnOk P w K mg base CX0 1 f fd ["_law_one", "_law_other"] sp_is_less := by
  refine F.ok sc_law_is_less (fun vs H Q E h => ?_) (fun cdv A outer s H vs Q E hr h => ?_)
  · obtain ⟨p, q, n, d, n', d', rfl, _⟩ := h
    rfl
  · obtain ⟨p, q, n, d, n', d', rfl, h1, h2, b1, b2, k⟩ := h
    refine ⟨_, (pss_one (ps_ret (pe_cmpR op_lt (pe_op op_mul (pe_ix ix_tup (pv 0) pe_int (fun _ _ => rfl)) (pe_ix ix_tup (pv 1) pe_int (fun _ _ => rfl))) (pe_op op_mul (pe_ix ix_tup (pv 1) pe_int (fun _ _ => rfl)) (pe_ix ix_tup (pv 0) pe_int (fun _ _ => rfl))) (nomark _)))), ?_⟩
    have c1 := b1.n
    have c2 := b2.n
    refine ⟨_, rfl, p, _, _, _, rfl, rfl, SqT.of h1, rfl, _, rfl, q, _, _, _, rfl, rfl, SqT.of h2, rfl, _, _, rfl, rfl, .inl ⟨by omega, by omega⟩, ?_⟩
    refine ⟨_, rfl, q, _, _, _, rfl, rfl, SqT.of h2, rfl, _, rfl, p, _, _, _, rfl, rfl, SqT.of h1, rfl, _, _, rfl, rfl, .inl ⟨by omega, by omega⟩, ?_⟩
    exact ⟨_, _, rfl, rfl, k⟩
abbrev s_law_near : Stmt := top 24
abbrev N_law_near : List Str := ["_law_jar_here", "_law_number", "_law_under", "_law_way", "_law_other"]
theorem sc_law_near : FnScope N_law_near ["_law_jar_here"] (defScope s_law_near) := ⟨rfl, rfl, rfl, by decide +kernel, rfl, by decide +kernel, by decide +kernel⟩
def sp_near : Sp := fun vs H Q _ => ∃ (p : Addr) (m : Nat), vs = [.ref p] ∧ Jar H p (m + 6) ∧ ∀ (r q q' : Addr) (n d n' d' : Int) H', Keep p H H' → Jar H' p m → H' r = some (.tup [.ref q, .ref q']) → Pr H' q n d → Pr H' q' n' d' → FrM.Red n d → FrM.Red n' d' → B9 n d → B9 n' d' → Q (.ref r) H'
theorem b9_frac {n u : Int} (h : u ≠ 0) (hn : n.natAbs ≤ 999999999) (hu : u.natAbs ≤ 999999999) : B9 (FrM.num n u) (FrM.den n u) := ⟨Nat.le_trans (FrM.num_le h) hn, Nat.le_trans (FrM.den_le h) hu⟩
theorem small_pow {u : Int} (hu : u.natAbs ≤ 999999999) : u.natAbs < 2 ^ 9000 := Nat.lt_of_le_of_lt hu (by decide +kernel)
theorem ok_near {f : Addr} {fd : FuncData} (F : L2.Fun K "_law_near" "_law_near" s_law_near f fd) (T : Txt K mg CA p0 p1) (c_law_take : Cal P w K mg base 1 "_law_take" sp_take []) (c_law_frac : Cal P w K mg base 1 "_law_frac" sp_frac []) : FnOk P w K mg base CX0 2 f fd ["_law_jar_here"] sp_near := by
  refine F.ok sc_law_near (fun vs H Q E h => ?_) (fun cdv A outer s H vs Q E hr h => ?_)
  · obtain ⟨p, m, rfl, _⟩ := h
    rfl
  · obtain ⟨p, m, rfl, hj, k⟩ := h
    refine ⟨_, (pss_cons (ps_par (i := 1) (j := 2) rfl sc_law_near.nd rfl rfl (by decide) rfl rfl (pa_cons (pe_op op_sub (pe_cal c_law_take hr (by decide) rfl (pa_cons (pv 0) (pa_cons pe_int pa_nil))) pe_int) (pa_cons (pe_op op_add pe_int (pe_cal c_law_take hr (by decide) rfl (pa_cons (pv 0) (pa_cons pe_int pa_nil)))) pa_nil)) rfl)
      (Evl.pss_cut (ps_if (pt_cmpR op_eq (pe_cal c_law_take hr (by decide) rfl (pa_cons (pv 0) (pa_cons pe_int pa_nil))) pe_int (nomark _)) (pss_one (ps_par (i := 1) (j := 2) rfl sc_law_near.nd rfl rfl (by decide) rfl rfl (pa_cons (pe_op op_sub pe_int (pe_cal c_law_take hr (by decide) rfl (pa_cons (pv 0) (pa_cons pe_int pa_nil)))) (pa_cons (pe_op op_sub pe_int (pe_cal c_law_take hr (by decide) rfl (pa_cons (pv 0) (pa_cons pe_int pa_nil)))) pa_nil)) rfl)) pss_nil)
      (pss_cons (ps_set (i := 3) sc_law_near.nd rfl (Or.inl rfl) (pe_cal c_law_take hr (by decide) rfl (pa_cons (pv 0) (pa_cons pe_int pa_nil))))
      (Evl.pss_cut (ps_set (i := 4) sc_law_near.nd rfl (Or.inl rfl) (pe_ix ix_list (pe_lst (pa_cons (pe_tup (pa_cons (pv 1) (pa_cons (pv 2) pa_nil))) (pa_cons (pe_tup (pa_cons (pe_op op_add (pv 1) pe_int) (pa_cons (pv 2) pa_nil))) (pa_cons (pe_tup (pa_cons (pv 1) (pa_cons (pe_op op_add (pv 2) pe_int) pa_nil))) (pa_cons (pe_tup (pa_cons (pe_un un_neg (pv 1)) (pa_cons (pv 2) pa_nil))) pa_nil))))) (pv 3) (fun _ _ => rfl)))
      (Evl.pss_cut (ps_if (PW.pt (pw_or (pt_cmpR op_gt (pe_ix ix_tup (pv 4) pe_int (fun _ _ => rfl)) pe_int (nomark _)) (pw_or1 (pt_cmpR op_gt (pe_callB call_abs (by rfl) T.z_abs (by decide +kernel) (pa_cons (pe_ix ix_tup (pv 4) pe_int (fun _ _ => rfl)) pa_nil)) pe_int (nomark _))))) (pss_one (ps_set (i := 4) sc_law_near.nd rfl (Or.inl rfl) (pe_tup (pa_cons (pv 1) (pa_cons (pv 2) pa_nil))))) pss_nil)
      (pss_one (ps_ret (pe_tup (pa_cons (pe_cal c_law_frac hr (by decide) rfl (pa_cons (pv 1) (pa_cons (pv 2) pa_nil))) (pa_cons (pe_cal c_law_frac hr (by decide) rfl (pa_cons (pe_ix ix_tup (pv 4) pe_int (fun _ _ => rfl)) (pa_cons (pe_ix ix_tup (pv 4) pe_int (fun _ _ => rfl)) pa_nil))) pa_nil)))))))))), ?_⟩
    refine ⟨_, rfl, p, _, m + 5, rfl, by decide, by decide, hj, fun i1 H1 a1 a2 k1 j1 => ⟨_, _, rfl, rfl, _, rfl, p, _, m + 4, rfl, by decide, by decide, j1, fun i2 H2 b1 b2 k2 j2 => ⟨_, _, rfl, rfl, _, _, rfl, ?_⟩⟩⟩
    -- if
    refine ⟨fun σ' H' => ∃ nu un : Int, σ' = [some (.ref p), some (.int nu), some (.int un), none, none] ∧ Keep p H H' ∧ Jar H' p (m + 1) ∧ -20 ≤ nu ∧ nu ≤ 999999999 ∧ 1 ≤ un ∧ un ≤ 999999999, ?_, ?_⟩
    · refine ⟨_, rfl, p, _, m + 3, rfl, by decide, by decide, j2, fun i3 H3 c1 c2 k3 j3 => ⟨rfl, _, rfl, ?_⟩⟩
      refine ite2 (fun _ => ?_) (fun _ => ?_)
      · refine ⟨_, rfl, p, _, m + 2, rfl, by decide, by decide, j3, fun i4 H4 d1 d2 k4 j4 => ⟨_, _, rfl, rfl, _, rfl, p, _, m + 1, rfl, by decide, by decide, j4, fun i5 H5 e1 e2 k5 j5 => ⟨_, _, rfl, rfl, _, _, rfl, ?_⟩⟩⟩
        exact ⟨_, _, rfl, (((k1.trans k2).trans k3).trans k4).trans k5, j5, by omega, by omega, by omega, by omega⟩
      · exact ⟨_, _, rfl, (k1.trans k2).trans k3, j3.le (by omega), by omega, by omega, by omega, by omega⟩
    · rintro σ' H3 ⟨nu, un, rfl, k3, j3, x1, x2, x3, x4⟩
      -- way
      refine ⟨_, rfl, p, _, m, rfl, by decide, by decide, j3, fun way H4 w1 w2 k4 j4 => ?_⟩
      refine ⟨fun σ' H' => ∃ (q : Addr) (o0 o1 : Int), σ' = [some (.ref p), some (.int nu), some (.int un), some (.int way), some (.ref q)] ∧ Keep p H H' ∧ Jar H' p m ∧ Pr H' q o0 o1 ∧ 1 ≤ o1 ∧ o0.natAbs ≤ 1000000000 ∧ o1.natAbs ≤ 1000000000, ?_, ?_⟩
      · refine ⟨_, rfl, _, rfl, by show 2 ≤ sizeLine; decide, fun t1 h1 => ⟨_, rfl, _, _, rfl, rfl, _, rfl, by show 2 ≤ sizeLine; decide, fun t2 h2 => ⟨_, rfl, _, rfl, _, _, rfl, rfl, by show 2 ≤ sizeLine; decide, fun t3 h3 => ⟨_, rfl, _, rfl, _, rfl, by show 2 ≤ sizeLine; decide, fun t4 h4 => ⟨by show 4 ≤ sizeLine; decide, fun l hl => ⟨_, rfl, ?_⟩⟩⟩⟩⟩⟩
        have j5 := ((((j4.new (o := .tup [.int nu, .int un]) h1).new (o := .tup [.int (nu + 1), .int un]) h2).new (o := .tup [.int nu, .int (un + 1)]) h3).new (o := .tup [.int (-nu), .int un]) h4).new (o := .lst [.ref t1, .ref t2, .ref t3, .ref t4]) hl
        have k5 := (((((k3.trans k4).new (o := .tup [.int nu, .int un]) h1).new (o := .tup [.int (nu + 1), .int un]) h2).new (o := .tup [.int nu, .int (un + 1)]) h3).new (o := .tup [.int (-nu), .int un]) h4).new (o := .lst [.ref t1, .ref t2, .ref t3, .ref t4]) hl
        have g4 : ∀ o, upd (upd (upd (upd (upd H4 t1 (.tup [.int nu, .int un])) t2 (.tup [.int (nu + 1), .int un])) t3 (.tup [.int nu, .int (un + 1)])) t4 (.tup [.int (-nu), .int un])) l o t4 = some (.tup [.int (-nu), .int un]) := fun o => by
          have z : upd (upd (upd (upd H4 t1 (.tup [.int nu, .int un])) t2 (.tup [.int (nu + 1), .int un])) t3 (.tup [.int nu, .int (un + 1)])) t4 (.tup [.int (-nu), .int un]) t4 = some (.tup [.int (-nu), .int un]) := upd_same
          exact Evl.Ex.new hl _ _ z
        have g3 : ∀ o, upd (upd (upd (upd (upd H4 t1 (.tup [.int nu, .int un])) t2 (.tup [.int (nu + 1), .int un])) t3 (.tup [.int nu, .int (un + 1)])) t4 (.tup [.int (-nu), .int un])) l o t3 = some (.tup [.int nu, .int (un + 1)]) := fun o => Evl.Ex.new hl _ _ (Evl.Ex.new h4 _ _ upd_same)
        have g2 : ∀ o, upd (upd (upd (upd (upd H4 t1 (.tup [.int nu, .int un])) t2 (.tup [.int (nu + 1), .int un])) t3 (.tup [.int nu, .int (un + 1)])) t4 (.tup [.int (-nu), .int un])) l o t2 = some (.tup [.int (nu + 1), .int un]) := fun o => Evl.Ex.new hl _ _ (Evl.Ex.new h4 _ _ (Evl.Ex.new h3 _ _ upd_same))
        have g1 : ∀ o, upd (upd (upd (upd (upd H4 t1 (.tup [.int nu, .int un])) t2 (.tup [.int (nu + 1), .int un])) t3 (.tup [.int nu, .int (un + 1)])) t4 (.tup [.int (-nu), .int un])) l o t1 = some (.tup [.int nu, .int un]) := fun o => Evl.Ex.new hl _ _ (Evl.Ex.new h4 _ _ (Evl.Ex.new h3 _ _ (Evl.Ex.new h2 _ _ upd_same)))
        have hw : way = 0 ∨ way = 1 ∨ way = 2 ∨ way = 3 := by omega
        rcases hw with rfl | rfl | rfl | rfl
        · exact ⟨l, _, _, .ref t1, rfl, rfl, SqL.of upd_same, rfl, t1, _, _, rfl, k5, j5, g1 _, by omega, by omega, by omega⟩
        · exact ⟨l, _, _, .ref t2, rfl, rfl, SqL.of upd_same, rfl, t2, _, _, rfl, k5, j5, g2 _, by omega, by omega, by omega⟩
        · exact ⟨l, _, _, .ref t3, rfl, rfl, SqL.of upd_same, rfl, t3, _, _, rfl, k5, j5, g3 _, by omega, by omega, by omega⟩
        · exact ⟨l, _, _, .ref t4, rfl, rfl, SqL.of upd_same, rfl, t4, _, _, rfl, k5, j5, g4 _, by omega, by omega, by omega⟩
      · rintro σ' H5 ⟨q, o0, o1, rfl, k5, j5, hq, y0, y1, y2⟩
        refine ⟨fun σ' H' => ∃ (q : Addr) (o0 o1 : Int), σ' = [some (.ref p), some (.int nu), some (.int un), some (.int way), some (.ref q)] ∧ Keep p H H' ∧ Jar H' p m ∧ Pr H' q o0 o1 ∧ 1 ≤ o1 ∧ o0.natAbs ≤ 999999999 ∧ o1.natAbs ≤ 999999999, ?_, ?_⟩
        · have other : ∀ H5, Keep p H H5 → Jar H5 p m → (tAsg (tTup (tCons (tVar 1) (tCons (tVar 2) tNil))) (gName 4)) { nx := fun σ' H' => ∃ (q : Addr) (o0 o1 : Int), σ' = [some (.ref p), some (.int nu), some (.int un), some (.int way), some (.ref q)] ∧ Keep p H H' ∧ Jar H' p m ∧ Pr H' q o0 o1 ∧ 1 ≤ o1 ∧ o0.natAbs ≤ 999999999 ∧ o1.natAbs ≤ 999999999, rt := Q } [some (.ref p), some (.int nu), some (.int un), some (.int way), some (.ref q)] H5 := by
            intro H5 k5 j5
            refine ⟨_, rfl, _, rfl, by show 2 ≤ sizeLine; decide, fun t ht => ?_⟩
            exact ⟨t, _, _, rfl, k5.new ht, j5.new ht, upd_same, by omega, by omega, by omega⟩
          refine ⟨_, rfl, q, _, _, _, rfl, rfl, SqT.of hq, rfl, _, _, rfl, rfl, _, rfl, ?_⟩
          refine ite2 (fun h => ?_) (fun h => ?_)
          · exact iteT (other H5 k5 j5)
          · refine ⟨_, rfl, q, _, _, _, rfl, rfl, SqT.of hq, rfl, _, rfl, _, _, rfl, rfl, _, rfl, ?_⟩
            refine ite2 (fun h' => other H5 k5 j5) (fun h' => ?_)
            have z1 : ¬ 999999999 < o1 := fun z => h (decide_eq_true z)
            have z2 : ¬ 999999999 < (if o0 < 0 then -o0 else o0) := fun z => h' (decide_eq_true z)
            rw [abs_eq] at z2
            exact ⟨q, o0, o1, rfl, k5, j5, hq, y0, by omega, by omega⟩
        · rintro σ' H6 ⟨q, o0, o1, rfl, k6, j6, hq, y0, y1, y2⟩
          refine ⟨_, rfl, _, rfl, nu, un, rfl, by omega, small_pow (by omega), fun r1 H7 f1 e7 g7 => ?_⟩
          have hq7 := hq.ext e7
          refine ⟨_, rfl, q, _, _, _, rfl, rfl, SqT.of hq7, rfl, _, rfl, q, _, _, _, rfl, rfl, SqT.of hq7, rfl, o0, o1, rfl, by omega, small_pow y2, fun r2 H8 f2 e8 g8 => ?_⟩
          refine ⟨by show 2 ≤ sizeLine; decide, fun r hr8 => ?_⟩
          have e9 : Ex H8 (upd H8 r (.tup [.ref r1, .ref r2])) := Evl.Ex.new hr8
          have hun : un ≠ 0 := by omega
          have ho1 : o1 ≠ 0 := by omega
          exact k r r1 r2 _ _ _ _ _ (((k6.trans (.of e7)).trans (.of e8)).new hr8) (((j6.ext e7).ext e8).new hr8) upd_same (e9 _ _ (e8 _ _ g7)) (e9 _ _ g8) (FrM.red hun) (FrM.red ho1) (b9_frac hun (by omega) (by omega)) (b9_frac ho1 y1 y2)
abbrev s_law_amount : Stmt := top 25
abbrev N_law_amount : List Str := ["_law_jar_here", "_law_pair"]
theorem sc_law_amount : FnScope N_law_amount ["_law_jar_here", "_law_pair"] (defScope s_law_amount) := ⟨rfl, rfl, rfl, by decide +kernel, rfl, by decide +kernel, by decide +kernel⟩
def sp_amount (CA : Addr) : Sp := fun vs H Q _ => ∃ (p q : Addr) (m : Nat) (n d : Int), vs = [.ref p, .ref q] ∧ Jar H p (m + 1) ∧ Pr H q n d ∧ FrM.Red n d ∧ B9 n d ∧ ∀ v H', Keep p H H' → Jar H' p m → IsA CA H' v n d → Q v H'
theorem ok_amount {f : Addr} {fd : FuncData} (F : L2.Fun K "_law_amount" "_law_amount" s_law_amount f fd) (T : Txt K mg CA p0 p1) (c_law_take : Cal P w K mg base 1 "_law_take" sp_take []) (m_Amount2 : Mak P w K mg base 2 "Amount" CA (sp_init CA) []) : FnOk P w K mg base CX0 4 f fd ["_law_jar_here", "_law_pair"] (sp_amount CA) := by
  refine F.ok sc_law_amount (fun vs H Q E h => ?_) (fun cdv A outer s H vs Q E hr h => ?_)
  · obtain ⟨p, q, m, n, d, rfl, _⟩ := h
    rfl
  · obtain ⟨p, q, m, n, d, rfl, hj, hq, hd, hb, k⟩ := h
    refine ⟨_, (pss_cons (ps_if (PW.pt (pw_and (pt_cmpR op_eq (pe_ix ix_tup (pv 1) pe_int (fun _ _ => rfl)) pe_int (nomark _)) (pw_and1 (pt_cmpR op_eq (pe_cal c_law_take hr (by decide) rfl (pa_cons (pv 0) (pa_cons pe_int pa_nil))) pe_int (nomark _))))) (pss_one (ps_ret (pe_ix ix_tup (pv 1) pe_int (fun _ _ => rfl)))) pss_nil)
      (pss_one (ps_ret (pe_ifExp (pt_chain op_lt op_gt (pe_callB call_abs (by rfl) T.z_abs (by decide +kernel) (pa_cons (pe_ix ix_tup (pv 1) pe_int (fun _ _ => rfl)) pa_nil)) pe_int (pe_ix ix_tup (pv 1) pe_int (fun _ _ => rfl))) (pe_mak m_Amount2 hr (by decide) rfl (pa_cons (pe_op op_mul (pe_ix ix_tup (pv 1) pe_int (fun _ _ => rfl)) pe_int) (pa_cons (pe_op op_mul (pe_ix ix_tup (pv 1) pe_int (fun _ _ => rfl)) pe_int) pa_nil))) (pe_mak m_Amount2 hr (by decide) rfl (pa_cons (pe_ix ix_tup (pv 1) pe_int (fun _ _ => rfl)) (pa_cons (pe_ix ix_tup (pv 1) pe_int (fun _ _ => rfl)) pa_nil))))))), ?_⟩
    have hd0 := hd.pos
    have b1 := hb.n
    have b2 := hb.d
    have rest : ∀ H1, Keep p H H1 → Jar H1 p m → Pr H1 q n d → (tRet (tIf (tTest (tChain (rI0 fun i j => V.bl (decide (i < j))) (rI0 fun i j => V.bl (decide (j < i))) (tCB (fun xs H Q => ∃ i, xs = [V.int i] ∧ Q (V.int (if i < 0 then -i else i)) H) (tCons (tOp (rIxT K) (tVar 1) (tC (V.int 0))) tNil)) (tC (V.int 300000000)) (tOp (rIxT K) (tVar 1) (tC (V.int 1)))))
        (tMake CA (sp_init CA) [] E0 (tCons (tOp (rI CMul fun i j => V.int (i * j)) (tOp (rIxT K) (tVar 1) (tC (V.int 0))) (tC (V.int 3))) (tCons (tOp (rI CMul fun i j => V.int (i * j)) (tOp (rIxT K) (tVar 1) (tC (V.int 1))) (tC (V.int 3))) tNil)))
        (tMake CA (sp_init CA) [] E0 (tCons (tOp (rIxT K) (tVar 1) (tC (V.int 0))) (tCons (tOp (rIxT K) (tVar 1) (tC (V.int 1))) tNil))))) { nx := fun x H' => Q V.non H', rt := Q } [some (.ref p), some (.ref q)] H1 := by
      intro H1 k1 j1 h1
      have three : ∀ {Q' : VK}, (∀ v H', Ex H1 H' → Am CA H' v n d → Q' v H') → (tMake CA (sp_init CA) [] E0 (tCons (tOp (rI CMul fun i j => V.int (i * j)) (tOp (rIxT K) (tVar 1) (tC (V.int 0))) (tC (V.int 3))) (tCons (tOp (rI CMul fun i j => V.int (i * j)) (tOp (rIxT K) (tVar 1) (tC (V.int 1))) (tC (V.int 3))) tNil))) [some (.ref p), some (.ref q)] H1 Q' := by
        intro Q' q'
        refine ⟨_, rfl, q, _, _, _, rfl, rfl, SqT.of h1, rfl, _, _, rfl, rfl, .inr ⟨by decide, by decide⟩, _, rfl, q, _, _, _, rfl, rfl, SqT.of h1, rfl, _, _, rfl, rfl, .inr ⟨by decide, by decide⟩, ?_⟩
        refine fun x dx hx hdx hne => init_use hx hdx hne (by omega) (Nat.lt_of_le_of_lt (show (d * 3).natAbs ≤ 4000000000 by omega) (by decide +kernel)) fun H' e a => ⟨rfl, ?_⟩
        have z := FrM.of_scaled hd (k := 3) (by decide)
        rw [z.1, z.2] at a
        exact q' _ H' e a
      have one : ∀ {Q' : VK}, (∀ v H', Ex H1 H' → Am CA H' v n d → Q' v H') → (tMake CA (sp_init CA) [] E0 (tCons (tOp (rIxT K) (tVar 1) (tC (V.int 0))) (tCons (tOp (rIxT K) (tVar 1) (tC (V.int 1))) tNil))) [some (.ref p), some (.ref q)] H1 Q' := by
        intro Q' q'
        refine ⟨_, rfl, q, _, _, _, rfl, rfl, SqT.of h1, rfl, _, rfl, q, _, _, _, rfl, rfl, SqT.of h1, rfl, ?_⟩
        refine fun x dx hx hdx hne => init_use hx hdx hne (by omega) (small_pow b2) fun H' e a => ⟨rfl, ?_⟩
        have z := FrM.of_red hd
        rw [z.1, z.2] at a
        exact q' _ H' e a
      have fin : ∀ v H', Ex H1 H' → Am CA H' v n d → Q v H' := fun v H' e a => k v H' (k1.trans (.of e)) (j1.ext e) (.inr a)
      refine ⟨_, rfl, q, _, _, _, rfl, rfl, SqT.of h1, rfl, _, rfl, _, _, rfl, rfl, _, rfl, ?_⟩
      refine ite2 (fun _ => ?_) (fun _ => ?_)
      · refine ⟨_, rfl, q, _, _, _, rfl, rfl, SqT.of h1, rfl, _, _, rfl, rfl, _, rfl, ?_⟩
        exact ite2 (fun _ => three fin) (fun _ => one fin)
      · exact ⟨_, rfl, iteF (one fin)⟩
    refine ⟨_, rfl, q, _, _, _, rfl, rfl, SqT.of hq, rfl, rfl, _, rfl, ?_⟩
    refine ite2 (fun h => ?_) (fun _ => ?_)
    · have e1 : d = 1 := V.int.inj (of_decide_eq_true h)
      refine ⟨_, rfl, p, _, m, rfl, by decide, by decide, hj, fun i H1 _ _ k1 j1 => ⟨rfl, _, rfl, ?_⟩⟩
      have h1 := hq.keep k1 hj
      refine ite2 (fun _ => ?_) (fun _ => ?_)
      · exact ⟨_, rfl, q, _, _, _, rfl, rfl, SqT.of h1, rfl, k _ H1 k1 j1 (.inl ⟨rfl, e1⟩)⟩
      · exact rest H1 k1 j1 h1
    · exact iteF (rest H (Keep.refl _ _) (hj.le (by omega)) hq)
abbrev s_law_signs : Stmt := top 26
abbrev N_law_signs : List Str := ["_law_one", "_law_other"]
theorem sc_law_signs : FnScope N_law_signs ["_law_one", "_law_other"] (defScope s_law_signs) := ⟨rfl, rfl, rfl, by decide +kernel, rfl, by decide +kernel, by decide +kernel⟩
def signsL (i : Int) : List V := [.bl (decide (i = 0)), .bl (!decide (i = 0)), .bl (decide (i < 0)), .bl (decide (i ≤ 0)), .bl (decide (0 < i)), .bl (decide (0 ≤ i))]
def sp_signs (CA : Addr) : Sp := fun vs H Q _ => ∃ x y n d n' d', vs = [x, y] ∧ Two CA H x y n d n' d' ∧ Sm n d ∧ Sm n' d' ∧ ∀ l H', Ex H H' → H l = none → H' l = some (.lst (signsL (n * d' - n' * d))) → Q (.ref l) H'
theorem IsA.ext {H H' : Hp} {v : V} {n d : Int} (x : IsA CA H v n d) (e : Ex H H') : IsA CA H' v n d := by
  rcases x with x | x
  · exact .inl x
  · exact .inr (x.ext e)
theorem Two.ext {H H' : Hp} {x y : V} {n d n' d' : Int} (t : Two CA H x y n d n' d') (e : Ex H H') : Two CA H' x y n d n' d' := by
  rcases t with ⟨a, b⟩ | ⟨a, b⟩
  · exact .inl ⟨a.ext e, b.ext e⟩
  · exact .inr ⟨a.ext e, b.ext e⟩
theorem ok_signs {f : Addr} {fd : FuncData} (F : L2.Fun K "_law_signs" "_law_signs" s_law_signs f fd) (T : Txt K mg CA p0 p1) (c : AmCmp P w K mg base CA p0 p1) : FnOk P w K mg base CX0 8 f fd ["_law_one", "_law_other"] (sp_signs CA) := by
  refine F.ok sc_law_signs (fun vs H Q E h => ?_) (fun cdv A outer s H vs Q E hr h => ?_)
  · obtain ⟨x, y, n, d, n', d', rfl, _⟩ := h
    rfl
  · obtain ⟨x, y, n, d, n', d', rfl, t, b, b', k⟩ := h
    refine ⟨_, (pss_one (ps_ret (pe_lst (pa_cons (pe_cmpR (op_eqA c hr (by decide)) (pv 0) (pv 1) (nomark _)) (pa_cons (pe_cmpR (op_neA c hr (by decide)) (pv 0) (pv 1) (nomark _)) (pa_cons (pe_cmpR (op_ltA c hr (by decide)) (pv 0) (pv 1) (nomark _)) (pa_cons (pe_cmpR (op_leA c hr (by decide)) (pv 0) (pv 1) (nomark _)) (pa_cons (pe_cmpR (op_gtA c hr (by decide)) (pv 0) (pv 1) (nomark _)) (pa_cons (pe_cmpR (op_geA c hr (by decide)) (pv 0) (pv 1) (nomark _)) pa_nil))))))))), ?_⟩
    refine ⟨_, rfl, _, rfl, n, d, n', d', t, b, b', fun H1 e1 => ?_⟩
    refine ⟨_, rfl, _, rfl, n, d, n', d', t.ext e1, b, b', fun H2 e2 => ?_⟩
    refine ⟨_, rfl, _, rfl, n, d, n', d', (t.ext e1).ext e2, b, b', fun H3 e3 => ?_⟩
    refine ⟨_, rfl, _, rfl, n, d, n', d', ((t.ext e1).ext e2).ext e3, b, b', fun H4 e4 => ?_⟩
    refine ⟨_, rfl, _, rfl, n, d, n', d', (((t.ext e1).ext e2).ext e3).ext e4, b, b', fun H5 e5 => ?_⟩
    refine ⟨_, rfl, _, rfl, n, d, n', d', ((((t.ext e1).ext e2).ext e3).ext e4).ext e5, b, b', fun H6 e6 => ?_⟩
    have eA : Ex H H6 := ((((e1.trans e2).trans e3).trans e4).trans e5).trans e6
    refine ⟨by show 6 ≤ sizeLine; decide, fun l hl => ?_⟩
    exact k l _ (eA.trans (Evl.Ex.new hl)) (Evl.fresh_back eA hl) upd_same
abbrev s_law_due : Stmt := top 27
abbrev N_law_due : List Str := ["_law_left", "_law_right", "_law_is_less_here", "_law_is_more"]
theorem sc_law_due : FnScope N_law_due ["_law_left", "_law_right"] (defScope s_law_due) := ⟨rfl, rfl, rfl, by decide +kernel, rfl, by decide +kernel, by decide +kernel⟩
def dueL (n d n' d' : Int) : List V := [.bl (decide (n = n' ∧ d = d')), .bl (!decide (n = n' ∧ d = d')), .bl (decide (n * d' < n' * d)), .bl (!decide (n' * d < n * d')), .bl (decide (n' * d < n * d')), .bl (!decide (n * d' < n' * d))]
def sp_due : Sp := fun vs H Q _ => ∃ (p q : Addr) (n d n' d' : Int), vs = [.ref p, .ref q] ∧ Pr H p n d ∧ Pr H q n' d' ∧ B9 n d ∧ B9 n' d' ∧ ∀ l H', Ex H H' → H l = none → H' l = some (.lst (dueL n d n' d')) → Q (.ref l) H'
theorem eqv_pair (n d n' d' : Int) : PyData.eqv (.tuple [.int n, .int d]) (.tuple [.int n', .int d']) = decide (n = n' ∧ d = d') := by
  by_cases h1 : n = n' <;> by_cases h2 : d = d' <;> simp [PyData.eqv, PyData.eqvAll, h1, h2]
theorem Pr.dp {H : Hp} {p : Addr} {n d : Int} (x : Pr H p n d) : Dp K H (.ref p) (.tuple [.int n, .int d]) := .tup (SqT.of x) (.cons (.int n) (.cons (.int d) .nil))
theorem ok_due {f : Addr} {fd : FuncData} (F : L2.Fun K "_law_due" "_law_due" s_law_due f fd) (T : Txt K mg CA p0 p1) (c_law_is_less : Cal P w K mg base 1 "_law_is_less" sp_is_less []) : FnOk P w K mg base CX0 2 f fd ["_law_left", "_law_right"] sp_due := by
  refine F.ok sc_law_due (fun vs H Q E h => ?_) (fun cdv A outer s H vs Q E hr h => ?_)
  · obtain ⟨p, q, n, d, n', d', rfl, _⟩ := h
    rfl
  · obtain ⟨p, q, n, d, n', d', rfl, h1, h2, b1, b2, k⟩ := h
    refine ⟨_, (pss_cons (ps_par (i := 2) (j := 3) rfl sc_law_due.nd rfl rfl (by decide) rfl rfl (pa_cons (pe_cal c_law_is_less hr (by decide) rfl (pa_cons (pv 0) (pa_cons (pv 1) pa_nil))) (pa_cons (pe_cal c_law_is_less hr (by decide) rfl (pa_cons (pv 1) (pa_cons (pv 0) pa_nil))) pa_nil)) rfl)
      (pss_one (ps_ret (pe_lst (pa_cons (pe_cmpR (op_eqD hr.units) (pv 0) (pv 1) (nomark _)) (pa_cons (pe_cmpR (op_neD hr.units) (pv 0) (pv 1) (nomark _)) (pa_cons (pv 2) (pa_cons (pe_not (pv 3)) (pa_cons (pv 3) (pa_cons (pe_not (pv 2)) pa_nil)))))))))), ?_⟩
    refine ⟨_, rfl, _, rfl, p, q, n, d, n', d', rfl, h1, h2, b1, b2, _, rfl, _, rfl, q, p, n', d', n, d, rfl, h2, h1, b2, b1, _, _, rfl, ?_⟩
    refine ⟨_, rfl, _, rfl, _, _, h1.dp, h2.dp, rfl, rfl, _, rfl, _, rfl, _, _, h1.dp, h2.dp, rfl, rfl, _, rfl, _, rfl, _, rfl, _, rfl, _, rfl, _, rfl, by show 6 ≤ sizeLine; decide, fun l hl => ?_⟩
    refine k l _ (Evl.Ex.new hl) hl (upd_same.trans ?_)
    rw [eqv_pair]
    rfl
abbrev s_law_is_unlike : Stmt := top 28
abbrev N_law_is_unlike : List Str := ["_law_made", "_law_odd"]
theorem sc_law_is_unlike : FnScope N_law_is_unlike ["_law_made", "_law_odd"] (defScope s_law_is_unlike) := ⟨rfl, rfl, rfl, by decide +kernel, rfl, by decide +kernel, by decide +kernel⟩
def sp_unlike (K : PySem.W.Frag) (CA : Addr) : Sp := fun vs H Q _ => ∃ x y n d, vs = [x, y] ∧ Am CA H x n d ∧ Sm n d ∧ Odd K CA H y ∧ Q (.bl true) H
theorem ok_unlike {f : Addr} {fd : FuncData} (F : L2.Fun K "_law_is_unlike" "_law_is_unlike" s_law_is_unlike f fd) (T : Txt K mg CA p0 p1) (c : AmCmp P w K mg base CA p0 p1) : FnOk P w K mg base CX0 8 f fd ["_law_made", "_law_odd"] (sp_unlike K CA) := by
  refine F.ok sc_law_is_unlike (fun vs H Q E h => ?_) (fun cdv A outer s H vs Q E hr h => ?_)
  · obtain ⟨x, y, n, d, rfl, _⟩ := h
    rfl
  · obtain ⟨x, y, n, d, rfl, a, b, o, k⟩ := h
    refine ⟨_, (pss_one (ps_ret (pe_and (pe_not (pe_cmpR (op_eqU c hr (by decide)) (pv 0) (pv 1) (nomark _))) (pe_and (pe_not (pe_cmpR (op_eqU c hr (by decide)) (pv 1) (pv 0) (nomark _))) (pe_and (pe_cmpR (op_neU c hr (by decide)) (pv 0) (pv 1) (nomark _)) (pe_one (pe_cmpR (op_neU c hr (by decide)) (pv 1) (pv 0) (nomark _)))))))), ?_⟩
    refine ⟨_, rfl, _, rfl, .inl ⟨n, d, a, b, o⟩, _, rfl, _, rfl, iteT ?_⟩
    refine ⟨_, rfl, _, rfl, .inr ⟨n, d, o, a, b⟩, _, rfl, _, rfl, iteT ?_⟩
    refine ⟨_, rfl, _, rfl, .inl ⟨n, d, a, b, o⟩, _, rfl, iteT ?_⟩
    exact ⟨_, rfl, _, rfl, .inr ⟨n, d, o, a, b⟩, k⟩
abbrev s_law_fine : Stmt := top 29
abbrev N_law_fine : List Str := ["_law_jar_here", "_law_lap", "_law_left", "_law_right", "_law_one", "_law_other", "_law_odd", "_law_made"]
theorem sc_law_fine : FnScope N_law_fine ["_law_jar_here"] (defScope s_law_fine) := ⟨rfl, rfl, rfl, by decide +kernel, rfl, by decide +kernel, by decide +kernel⟩
/-- a list of six truths -/
def d6 (b1 b2 b3 b4 b5 b6 : Bool) : PyData := .list [.bool b1, .bool b2, .bool b3, .bool b4, .bool b5, .bool b6]
theorem d6_ok : ∀ b1 b2 b3 b4 b5 b6 : Bool, (d6 b1 b2 b3 b4 b5 b6).showable = true ∧ (d6 b1 b2 b3 b4 b5 b6).depth ≤ 60 ∧ (d6 b1 b2 b3 b4 b5 b6).shown.length ≤ sizeLine := by decide +kernel
theorem rep6 {H : Hp} {l : Addr} {b1 b2 b3 b4 b5 b6 : Bool} (h : H l = some (.lst [.bl b1, .bl b2, .bl b3, .bl b4, .bl b5, .bl b6])) : Rep K H (.ref l) (d6 b1 b2 b3 b4 b5 b6) :=
  .list (SqL.of h) (.cons (.bl _) (.cons (.bl _) (.cons (.bl _) (.cons (.bl _) (.cons (.bl _) (.cons (.bl _) .nil))))))
/-- what the signs tell is what is due -/
theorem signs_due {n d n' d' : Int} (r : FrM.Red n d) (r' : FrM.Red n' d') : signsL (n * d' - n' * d) = dueL n d n' d' := by
  have e : decide (n * d' - n' * d = 0) = decide (n = n' ∧ d = d') := by
    rw [decide_eq_decide]
    constructor
    · intro h
      exact FrM.red_inj r r' (by omega)
    · rintro ⟨rfl, rfl⟩
      omega
  have e1 : decide (n * d' - n' * d < 0) = decide (n * d' < n' * d) := by rw [decide_eq_decide]; omega
  have e2 : decide (n * d' - n' * d ≤ 0) = !decide (n' * d < n * d') := by
    rw [← decide_not, decide_eq_decide]; omega
  have e3 : decide (0 < n * d' - n' * d) = decide (n' * d < n * d') := by rw [decide_eq_decide]; omega
  have e4 : decide (0 ≤ n * d' - n' * d) = !decide (n * d' < n' * d) := by
    rw [← decide_not, decide_eq_decide]; omega
  unfold signsL dueL
  rw [e, e1, e2, e3, e4]
/-- odd values by their objects -/
inductive Od (p : Addr) (H : Hp) : V → Prop where
  | non : Od p H .non
  | bl (b : Bool) : Od p H (.bl b)
  | str (z : Str) : Od p H (.str z)
  | lst {q : Addr} {xs : List V} (n : q ≠ p) (h : H q = some (.lst xs)) : Od p H (.ref q)
  | tup {q : Addr} {xs : List V} (h : H q = some (.tup xs)) : Od p H (.ref q)
  | dK {q : Addr} {kvs : List (Key × V)} (h : H q = some (.dK kvs)) : Od p H (.ref q)
theorem Od.keep {p : Addr} {H H' : Hp} {v : V} {m : Nat} (o : Od p H v) (k : Keep p H H') (j : Jar H p m) : Od p H' v := by
  cases o with
  | non => exact .non
  | bl b => exact .bl b
  | str z => exact .str z
  | lst n h => exact .lst n (k _ _ n h)
  | tup h => exact .tup (k.at j h fun _ z => nomatch z)
  | dK h => exact .dK (k.at j h fun _ z => nomatch z)
theorem Od.odd {p : Addr} {H : Hp} {v : V} (o : Od p H v) : Odd K CA H v := by
  cases o with
  | non => exact ⟨.non, .none, .b .non, by decide, by decide⟩
  | bl b => exact ⟨.bl b, .bool, .b (.bl b), by decide, by decide⟩
  | str z => exact ⟨.str z, .str, .b (.str z), by decide, by decide⟩
  | lst n h => exact ⟨.lst h, .list, .b (.lst h), by decide, by decide⟩
  | tup h => exact ⟨.tup h, .tuple, .b (.tup h), by decide, by decide⟩
  | dK h => exact ⟨.dK h, .dict, .b (.dK h), by decide, by decide⟩
def sp_fine : Sp := fun vs H Q _ => ∃ (p : Addr), vs = [.ref p] ∧ Jar H p 100 ∧ ∀ H', Keep p H H' → Q (.bl true) H'
theorem sm_of {n d : Int} (h1 : n.natAbs ≤ 100) (h2 : d.natAbs ≤ 100) : Sm n d := ⟨Nat.lt_of_le_of_lt h1 (by decide +kernel), Nat.lt_of_le_of_lt h2 (by decide +kernel)⟩
theorem ok_fine {f : Addr} {fd : FuncData} (F : L2.Fun K "_law_fine" "_law_fine" s_law_fine f fd) (T : Txt K mg CA p0 p1) (c_law_near : Cal P w K mg base 2 "_law_near" sp_near []) (m_Amount1 : Mak P w K mg base 2 "Amount" CA (sp_init CA) [.int 1]) (m_Amount2 : Mak P w K mg base 2 "Amount" CA (sp_init CA) [])
    (c_law_amount : Cal P w K mg base 4 "_law_amount" (sp_amount CA) []) (c_law_signs : Cal P w K mg base 8 "_law_signs" (sp_signs CA) []) (c_law_due : Cal P w K mg base 2 "_law_due" sp_due []) (c_law_of : Cal P w K mg base 2 "_law_of" (sp_of K) []) (c_law_is_unlike : Cal P w K mg base 8 "_law_is_unlike" (sp_unlike K CA) []) :
    FnG P w K mg base CX0 9 f fd ["_law_jar_here"] sp_fine := by
  refine okG F sc_law_fine (fun vs H Q E h => ?_) (fun cdv A outer s H vs Q E hr hgd h => ?_)
  · obtain ⟨p, rfl, _⟩ := h
    rfl
  · obtain ⟨p, rfl, hj, k⟩ := h
    refine ⟨_, (pss_cons (ps_for PassesOwn.never rfl (pi_range1 rfl T.z_range (pa_cons pe_int pa_nil)) (pg_name (i := 1) sc_law_fine.nd rfl (Or.inl rfl))
        (pss_cons (ps_asg (pe_cal c_law_near hr (by decide) rfl (pa_cons (pv 0) pa_nil)) (pg_tup rfl (pgs_cons (pg_name (i := 2) sc_law_fine.nd rfl (Or.inl rfl)) (pgs_cons (pg_name (i := 3) sc_law_fine.nd rfl (Or.inl rfl)) pgs_nil))))
      (pss_cons (ps_par (i := 4) (j := 5) rfl sc_law_fine.nd rfl rfl (by decide) rfl rfl (pa_cons (pe_mak m_Amount2 hr (by decide) rfl (pa_cons (pe_ix ix_tup (pv 2) pe_int (fun _ _ => rfl)) (pa_cons (pe_ix ix_tup (pv 2) pe_int (fun _ _ => rfl)) pa_nil))) (pa_cons (pe_cal c_law_amount hr (by decide) rfl (pa_cons (pv 0) (pa_cons (pv 3) pa_nil))) pa_nil)) rfl)
      (pss_cons (ps_if (pt_cmpR op_ne (pe_callB (call_reprD hr.units hgd) (by rfl) T.z_repr (by decide +kernel) (pa_cons (pe_cal c_law_signs hr (by decide) rfl (pa_cons (pv 4) (pa_cons (pv 5) pa_nil))) pa_nil)) (pe_callB (call_reprD hr.units hgd) (by rfl) T.z_repr (by decide +kernel) (pa_cons (pe_cal c_law_due hr (by decide) rfl (pa_cons (pv 2) (pa_cons (pv 3) pa_nil))) pa_nil)) (nomark _)) (pss_one (ps_ret pe_bl)) pss_nil)
      (pss_one (ps_if (pt_cmpR op_ne (pe_callB (call_reprD hr.units hgd) (by rfl) T.z_repr (by decide +kernel) (pa_cons (pe_cal c_law_signs hr (by decide) rfl (pa_cons (pv 5) (pa_cons (pv 4) pa_nil))) pa_nil)) (pe_callB (call_reprD hr.units hgd) (by rfl) T.z_repr (by decide +kernel) (pa_cons (pe_cal c_law_due hr (by decide) rfl (pa_cons (pv 3) (pa_cons (pv 2) pa_nil))) pa_nil)) (nomark _)) (pss_one (ps_ret pe_bl)) pss_nil))))))
      (pss_cons (ps_set (i := 6) sc_law_fine.nd rfl (Or.inl rfl) (pe_cal c_law_of hr (by decide) rfl (pa_cons (pv 0) (pa_cons (pe_lst (pa_cons pe_non (pa_cons pe_bl (pa_cons pe_bl (pa_cons pe_str (pa_cons pe_str (pa_cons (pe_tup pa_nil) (pa_cons (pe_tup (pa_cons pe_int pa_nil)) (pa_cons (pe_lst pa_nil) (pa_cons (pe_lst (pa_cons (pe_mak m_Amount1 hr (by decide) rfl (pa_cons pe_int pa_nil)) pa_nil)) (pa_cons pe_dnewK pa_nil))))))))))) pa_nil))))
      (pss_cons (ps_set (i := 7) sc_law_fine.nd rfl (Or.inl rfl) (pe_cal c_law_of hr (by decide) rfl (pa_cons (pv 0) (pa_cons (pe_lst (pa_cons (pe_mak m_Amount1 hr (by decide) rfl (pa_cons pe_int pa_nil)) (pa_cons (pe_mak m_Amount1 hr (by decide) rfl (pa_cons pe_int pa_nil)) (pa_cons (pe_mak m_Amount2 hr (by decide) rfl (pa_cons pe_int (pa_cons pe_int pa_nil))) (pa_cons (pe_mak m_Amount2 hr (by decide) rfl (pa_cons (pe_un un_neg pe_int) (pa_cons pe_int pa_nil))) pa_nil))))) pa_nil))))
      (pss_one (ps_ret (pe_cal c_law_is_unlike hr (by decide) rfl (pa_cons (pv 7) (pa_cons (pv 6) pa_nil)))))))), ?_⟩
    refine ⟨8, rfl, by decide, by decide, for_range (n := 8) (fun i σ H' => ∃ v1 v2 v3 v4 v5, σ = [some (.ref p), v1, v2, v3, v4, v5, none, none] ∧ Keep p H H' ∧ Jar H' p (100 - 7 * i)) ⟨_, _, _, _, _, rfl, Keep.refl _ _, hj⟩ ?_ ?_⟩
    · rintro i σ H1 hi ⟨v1, v2, v3, v4, v5, rfl, k1, j1⟩
      refine ⟨_, rfl, p, 100 - 7 * i - 6, rfl, j1.le (by omega), fun r q q' n d n' d' H2 k2 j2 hr2 h1 h2 r1 r2 b1 b2 => ⟨r, _, rfl, SqT.of hr2, rfl, _, _, rfl, _, _, rfl, rfl, ?_⟩⟩
      -- one, other
      refine ⟨_, rfl, q, _, _, _, rfl, rfl, SqT.of h1, rfl, _, rfl, q, _, _, _, rfl, rfl, SqT.of h1, rfl, fun x3 dx3 hx3 hdx3 hne3 => init_use hx3 hdx3 hne3 (Int.ne_of_gt r1.pos) (small_pow b1.d) fun H3 e3 a3 => ⟨rfl, ?_⟩⟩
      rw [(FrM.of_red r1).1, (FrM.of_red r1).2] at a3
      refine ⟨_, rfl, _, rfl, p, q', 100 - 7 * (i + 1), n', d', rfl, (j2.ext e3).le (by omega), h2.ext e3, r2, b2, fun v4 H4 k4 j4 a4 => ⟨_, _, rfl, ?_⟩⟩
      have j3 := j2.ext e3
      have a3' := a3.keep k4 j3
      have h14 := (h1.ext e3).keep k4 j3
      have h24 := (h2.ext e3).keep k4 j3
      -- the first comparison
      refine ⟨_, rfl, _, rfl, _, v4, n, d, n', d', rfl, .inl ⟨a3', a4⟩, b1.sm, b2.sm, fun l5 H5 e5 f5 g5 => ?_⟩
      refine ⟨_, d6 _ _ _ _ _ _, rfl, rep6 g5, (d6_ok _ _ _ _ _ _).1, (d6_ok _ _ _ _ _ _).2.1, (d6_ok _ _ _ _ _ _).2.2, ?_⟩
      refine ⟨_, rfl, _, rfl, q, q', n, d, n', d', rfl, h14.ext e5, h24.ext e5, b1, b2, fun l6 H6 e6 f6 g6 => ?_⟩
      refine ⟨_, d6 _ _ _ _ _ _, rfl, rep6 g6, (d6_ok _ _ _ _ _ _).1, (d6_ok _ _ _ _ _ _).2.1, (d6_ok _ _ _ _ _ _).2.2, rfl, _, rfl, ?_⟩
      have sd := signs_due r1 r2
      unfold signsL dueL at sd
      injection sd with s1 sd
      injection sd with s2 sd
      injection sd with s3 sd
      injection sd with s4 sd
      injection sd with s5 sd
      injection sd with s6 sd
      rw [V.bl.injEq] at s1 s2 s3 s4 s5 s6
      refine iteN (by rw [s1, s3, s4, s5, s6]; simp) ?_
      have eA := e5.trans e6
      -- the second one
      refine ⟨_, rfl, _, rfl, v4, _, n', d', n, d, rfl, .inr ⟨a4.ext eA, a3'.ext eA⟩, b2.sm, b1.sm, fun l7 H7 e7 f7 g7 => ?_⟩
      refine ⟨_, d6 _ _ _ _ _ _, rfl, rep6 g7, (d6_ok _ _ _ _ _ _).1, (d6_ok _ _ _ _ _ _).2.1, (d6_ok _ _ _ _ _ _).2.2, ?_⟩
      refine ⟨_, rfl, _, rfl, q', q, n', d', n, d, rfl, (h24.ext eA).ext e7, (h14.ext eA).ext e7, b2, b1, fun l8 H8 e8 f8 g8 => ?_⟩
      refine ⟨_, d6 _ _ _ _ _ _, rfl, rep6 g8, (d6_ok _ _ _ _ _ _).1, (d6_ok _ _ _ _ _ _).2.1, (d6_ok _ _ _ _ _ _).2.2, rfl, _, rfl, ?_⟩
      have sd := signs_due r2 r1
      unfold signsL dueL at sd
      injection sd with s1 sd
      injection sd with s2 sd
      injection sd with s3 sd
      injection sd with s4 sd
      injection sd with s5 sd
      injection sd with s6 sd
      rw [V.bl.injEq] at s1 s2 s3 s4 s5 s6
      refine iteN (by rw [s1, s3, s4, s5, s6]; simp) ?_
      have eB := (eA.trans e7).trans e8
      exact ⟨_, _, _, _, _, rfl, (((k1.trans k2).trans (.of e3)).trans k4).trans (.of eB), j4.ext eB⟩
    · rintro σ H1 ⟨v1, v2, v3, v4, v5, rfl, k1, j1⟩
      have j1 : Jar H1 p 44 := j1
      refine ⟨_, rfl, by show 0 ≤ sizeLine; decide, fun t1 f1 => ⟨by show 1 ≤ sizeLine; decide, fun t2 f2 => ⟨by show 0 ≤ sizeLine; decide, fun l1 f3 => ?_⟩⟩⟩
      refine fun x dx hx hdx hne => init_use hx hdx hne (by decide) (by decide +kernel) fun H5 e5 a5 => ⟨rfl, by show 1 ≤ sizeLine; decide, fun l2 f4 => ?_⟩
      refine fun dd f5 => ⟨by show 10 ≤ sizeLine; decide, fun l f6 => ?_⟩
      have x1 := Evl.Ex.new (o := .tup []) f1
      have x2 := Evl.Ex.new (o := .tup [.int 1]) f2
      have x3 := Evl.Ex.new (o := .lst []) f3
      have x4 := Evl.Ex.new (o := .lst [.ref x]) f4
      have x5 := Evl.Ex.new (o := .dK []) f5
      have x6 := Evl.Ex.new (o := .lst [.non, .bl true, .bl false, .str "", .str "1", .ref t1, .ref t2, .ref l1, .ref l2, .ref dd]) f6
      have y3 := ((x1.trans x2).trans x3).trans e5
      have y6 := ((y3.trans x4).trans x5).trans x6
      refine ⟨p, l, 43, [.non, .bl true, .bl false, .str "", .str "1", .ref t1, .ref t2, .ref l1, .ref l2, .ref dd], rfl, j1.ext y6, upd_same, (j1.ext ((y3.trans x4).trans x5)).ne_none f6, by show 0 < 10; decide, by show 10 < 1073741824; decide, fun i v H7 hv k7 j7 => ?_⟩
      have od : Od p H7 v := by
        have hm := List.mem_of_getElem? hv
        have n1 : l1 ≠ p := (j1.ext (x1.trans x2)).ne_none f3
        have n2 : l2 ≠ p := (j1.ext y3).ne_none f4
        have z : Od p (upd (upd (upd H5 l2 (.lst [.ref x])) dd (.dK [])) l (.lst [.non, .bl true, .bl false, .str "", .str "1", .ref t1, .ref t2, .ref l1, .ref l2, .ref dd])) v := by
          simp only [List.mem_cons, List.not_mem_nil, or_false] at hm
          rcases hm with rfl | rfl | rfl | rfl | rfl | rfl | rfl | rfl | rfl | rfl
          · exact .non
          · exact .bl _
          · exact .bl _
          · exact .str _
          · exact .str _
          · exact .tup (((((x2.trans x3).trans e5).trans x4).trans x5).trans x6 _ _ upd_same)
          · exact .tup ((((x3.trans e5).trans x4).trans x5).trans x6 _ _ upd_same)
          · exact .lst n1 (((e5.trans x4).trans x5).trans x6 _ _ upd_same)
          · exact .lst n2 ((x5.trans x6) _ _ upd_same)
          · exact .dK (x6 _ _ upd_same)
        exact z.keep k7 (j1.ext y6)
      -- the made ones
      refine ⟨_, rfl, fun xa dxa hxa hdxa hnea => init_use hxa hdxa hnea (by decide) (by decide +kernel) fun Ha ea aa => ⟨rfl, ?_⟩⟩
      refine fun xb dxb hxb hdxb hneb => init_use hxb hdxb hneb (by decide) (by decide +kernel) fun Hb eb ab => ⟨rfl, ?_⟩
      refine fun xc dxc hxc hdxc hnec => init_use hxc hdxc hnec (by decide) (by decide +kernel) fun Hc ec ac => ⟨rfl, ?_⟩
      refine ⟨_, rfl, fun xd dxd hxd hdxd hned => init_use hxd hdxd hned (by decide) (by decide +kernel) fun Hd ed ad => ⟨rfl, ?_⟩⟩
      refine ⟨by show 4 ≤ sizeLine; decide, fun l8 f8 => ?_⟩
      have x8 := Evl.Ex.new (o := .lst [.ref xa, .ref xb, .ref xc, .ref xd]) f8
      have y7 := ((ea.trans eb).trans ec).trans ed
      refine ⟨p, l8, 42, [.ref xa, .ref xb, .ref xc, .ref xd], rfl, (j7.ext y7).ext x8, upd_same, (j7.ext y7).ne_none f8, by show 0 < 4; decide, by show 4 < 1073741824; decide, fun i v9 H9 hv9 k9 j9 => ?_⟩
      have am : ∃ n d, Am CA H9 v9 n d ∧ Sm n d := by
        have hm := List.mem_of_getElem? hv9
        have z : ∃ n d, Am CA (upd Hd l8 (.lst [.ref xa, .ref xb, .ref xc, .ref xd])) v9 n d ∧ Sm n d := by
          simp only [List.mem_cons, List.not_mem_nil, or_false] at hm
          rcases hm with rfl | rfl | rfl | rfl
          · exact ⟨_, _, aa.ext (((eb.trans ec).trans ed).trans x8), sm_of (by decide) (by decide)⟩
          · exact ⟨_, _, ab.ext ((ec.trans ed).trans x8), sm_of (by decide) (by decide)⟩
          · exact ⟨_, _, ac.ext (ed.trans x8), sm_of (by decide) (by decide)⟩
          · exact ⟨_, _, ad.ext x8, sm_of (by decide) (by decide)⟩
        obtain ⟨n, d, a, b⟩ := z
        exact ⟨n, d, a.keep k9 ((j7.ext y7).ext x8), b⟩
      obtain ⟨n, d, a9, b9⟩ := am
      have od9 := (od.keep (Keep.of (y7.trans x8)) j7).keep k9 ((j7.ext y7).ext x8)
      exact ⟨_, rfl, _, rfl, _, _, n, d, rfl, a9, b9, od9.odd, k H9 ((((k1.trans (.of y6)).trans k7).trans (.of (y7.trans x8))).trans k9)⟩
abbrev s_law : Stmt := top 30
abbrev N_law : List Str := ["_law_script", "_law_k"]
theorem sc_law : FnScope N_law ["_law_script"] (defScope s_law) := ⟨rfl, rfl, rfl, by decide +kernel, rfl, by decide +kernel, by decide +kernel⟩
def sp_law (K : PySem.W.Frag) : Sp := fun vs H Q _ => ∃ (a : Addr) (ns : List Int), vs = [.ref a] ∧ SqL K H a (ns.map V.int) ∧ ns.length ≤ 63 ∧ Only H ∧ ∀ H', Q (.bl true) H'
theorem ok_law {f : Addr} {fd : FuncData} (F : L2.Fun K "law" "law" s_law f fd) (T : Txt K mg CA p0 p1) (c_law_fine : CalG P w K mg base 9 "_law_fine" sp_fine []) (c_law_jar : Cal P w K mg base 1 "_law_jar" (sp_jar K) []) : FnG P w K mg base CX0 10 f fd ["_law_script"] (sp_law K) := by
  refine okG F sc_law (fun vs H Q E h => ?_) (fun cdv A outer s H vs Q E hr hgd h => ?_)
  · obtain ⟨a, ns, rfl, _⟩ := h
    rfl
  · obtain ⟨a, ns, rfl, hS, hlen, hO, k⟩ := h
    refine ⟨_, (pss_one (ps_ret (pe_callB (cr_all rfl) (by rfl) T.z_all (by decide +kernel) (pa_cons (pe_lc (own := [("_law_k", 1)]) (g := gName 1) (tt := tYes) rfl sc_law.nd (pi_range1 rfl T.z_range (pa_cons (pe_callB (call_max2 rfl) (by rfl) T.z_max (by decide +kernel) (pa_cons pe_int (pa_cons (pe_callB (call_min2 rfl) (by rfl) T.z_min (by decide +kernel) (pa_cons pe_int (pa_cons (pe_callB call_len_seq (by rfl) T.z_len PySem.boot_len (pa_cons (pv 0) pa_nil)) pa_nil))) pa_nil))) pa_nil)) (blkOk_by (N := N_law) (sc := defScope s_law) (by decide +kernel)) (fun _ _ _ _ _ => (pg_name (i := 1) sc_law.nd rfl (Or.inl rfl))) (fun _ _ _ _ _ => pts_nil) (fun _ _ _ _ _ => (pe_calG c_law_fine hr hgd (by decide) rfl (pa_cons (pe_cal c_law_jar hr (by decide) rfl (pa_cons (pv 0) (pa_cons (pv 1) pa_nil))) pa_nil)))) pa_nil)))), ?_⟩
    have hl : ((ns.map V.int).length : Int) ≤ 63 := by rw [List.length_map]; omega
    refine ⟨_, rfl, _, _, rfl, .inl hS, _, _, rfl, _, _, rfl, _, rfl, by split <;> split <;> omega, by split <;> split <;> omega, fun D hD => ?_⟩
    generalize hn : (if (if ((ns.map V.int).length : Int) < 6 then ((ns.map V.int).length : Int) else 6) > 1 then (if ((ns.map V.int).length : Int) < 6 then ((ns.map V.int).length : Int) else 6) else 1) = jn
    have hjn : jn.toNat ≤ 6 := by
      rw [← hn]
      split <;> split <;> omega
    refine lc_range (n := jn.toNat) (fun i H' => H' D = some (.lst (List.replicate i (.bl true))) ∧ Ex H H') ⟨upd_same, Evl.Ex.new hD⟩ ?_ ?_
    · rintro i H1 hi ⟨h1, e1⟩
      refine ⟨rfl, _, rfl, _, rfl, a, _, ns, rfl, Evl.ex_l e1 hS, by omega, by omega, fun p H2 hp e2 j2 => ⟨p, rfl, j2.le (by decide), fun H3 k3 => ?_⟩⟩
      have h3 : H3 D = some (.lst (List.replicate i (.bl true))) := k3 D _ (ne_of_none h1 hp) (e2 _ _ h1)
      refine ⟨_, h3, ?_, ?_, ?_⟩
      · rw [List.length_replicate]
        exact Nat.lt_of_lt_of_le (show i < 100 by omega) (by decide)
      · rw [upd_same, List.replicate_succ']
      · intro b o hb
        have nb : b ≠ p := ne_of_none (e1 _ _ hb) hp
        rw [upd_ne (ne_of_none hb hD)]
        exact k3 b o nb (e2 _ _ (e1 _ _ hb))
    · rintro H1 ⟨h1, e1⟩
      refine ⟨D, List.replicate jn.toNat true, rfl, SqL.of (by rw [h1, List.map_replicate]), ?_⟩
      have e : (List.replicate jn.toNat true).all id = true := by simp
      show Q (.bl ((List.replicate jn.toNat true).all id)) H1
      rw [e]
      exact k H1

end
end Lw

namespace Lw
open PySem PySem.Spec PyProof.Rows L2 SlX WU
open Evl (Ex)
theorem all_mk {l : PySem.W.OpenLaw} {w : World} {K : PySem.W.Frag} {h : Heap} {mg : Str → Option Value} {fa : Addr} (X : K.In h) (G : h.Ns mainGlobals mg) (hfa : mg "law" = some (.ref fa))
    {f_is_integer : Addr} {od_is_integer an_is_integer : Option Addr} {sl_is_integer : Array (Option Value)} {oc_is_integer kV_is_integer dc_is_integer pm_is_integer cd_is_integer ct_is_integer : Value}
    {f_shared_by : Addr} {od_shared_by an_shared_by : Option Addr} {sl_shared_by : Array (Option Value)} {oc_shared_by kV_shared_by dc_shared_by pm_shared_by cd_shared_by ct_shared_by : Value}
    {f_Amount_init : Addr} {od_Amount_init an_Amount_init : Option Addr} {sl_Amount_init : Array (Option Value)} {oc_Amount_init kV_Amount_init dc_Amount_init pm_Amount_init cd_Amount_init ct_Amount_init : Value}
    {td_Amount_init : Addr} {oct_Amount_init : Value} {odt_Amount_init : Option Addr} {tk_Amount_init n_Amount_init : Nat} {slt_Amount_init : Array (Option Value)}
    {f_is_amount : Addr} {od_is_amount an_is_amount : Option Addr} {sl_is_amount : Array (Option Value)} {oc_is_amount kV_is_amount dc_is_amount pm_is_amount cd_is_amount ct_is_amount : Value}
    {f_amount_of : Addr} {od_amount_of an_amount_of : Option Addr} {sl_amount_of : Array (Option Value)} {oc_amount_of kV_amount_of dc_amount_of pm_amount_of cd_amount_of ct_amount_of : Value}
    {f_sign_beside : Addr} {od_sign_beside an_sign_beside : Option Addr} {sl_sign_beside : Array (Option Value)} {oc_sign_beside kV_sign_beside dc_sign_beside pm_sign_beside cd_sign_beside ct_sign_beside : Value}
    {f_Amount_eq : Addr} {od_Amount_eq an_Amount_eq : Option Addr} {sl_Amount_eq : Array (Option Value)} {oc_Amount_eq kV_Amount_eq dc_Amount_eq pm_Amount_eq cd_Amount_eq ct_Amount_eq : Value}
    {f_Amount_lt : Addr} {od_Amount_lt an_Amount_lt : Option Addr} {sl_Amount_lt : Array (Option Value)} {oc_Amount_lt kV_Amount_lt dc_Amount_lt pm_Amount_lt cd_Amount_lt ct_Amount_lt : Value}
    {f_Amount_le : Addr} {od_Amount_le an_Amount_le : Option Addr} {sl_Amount_le : Array (Option Value)} {oc_Amount_le kV_Amount_le dc_Amount_le pm_Amount_le cd_Amount_le ct_Amount_le : Value}
    {f_Amount_gt : Addr} {od_Amount_gt an_Amount_gt : Option Addr} {sl_Amount_gt : Array (Option Value)} {oc_Amount_gt kV_Amount_gt dc_Amount_gt pm_Amount_gt cd_Amount_gt ct_Amount_gt : Value}
    {f_Amount_ge : Addr} {od_Amount_ge an_Amount_ge : Option Addr} {sl_Amount_ge : Array (Option Value)} {oc_Amount_ge kV_Amount_ge dc_Amount_ge pm_Amount_ge cd_Amount_ge ct_Amount_ge : Value}
    {f_law_jar : Addr} {od_law_jar an_law_jar : Option Addr} {sl_law_jar : Array (Option Value)} {oc_law_jar kV_law_jar dc_law_jar pm_law_jar cd_law_jar ct_law_jar : Value}
    {f_law_take : Addr} {od_law_take an_law_take : Option Addr} {sl_law_take : Array (Option Value)} {oc_law_take kV_law_take dc_law_take pm_law_take cd_law_take ct_law_take : Value}
    {f_law_of : Addr} {od_law_of an_law_of : Option Addr} {sl_law_of : Array (Option Value)} {oc_law_of kV_law_of dc_law_of pm_law_of cd_law_of ct_law_of : Value}
    {f_law_frac : Addr} {od_law_frac an_law_frac : Option Addr} {sl_law_frac : Array (Option Value)} {oc_law_frac kV_law_frac dc_law_frac pm_law_frac cd_law_frac ct_law_frac : Value}
    {f_law_is_less : Addr} {od_law_is_less an_law_is_less : Option Addr} {sl_law_is_less : Array (Option Value)} {oc_law_is_less kV_law_is_less dc_law_is_less pm_law_is_less cd_law_is_less ct_law_is_less : Value}
    {f_law_near : Addr} {od_law_near an_law_near : Option Addr} {sl_law_near : Array (Option Value)} {oc_law_near kV_law_near dc_law_near pm_law_near cd_law_near ct_law_near : Value}
    {f_law_amount : Addr} {od_law_amount an_law_amount : Option Addr} {sl_law_amount : Array (Option Value)} {oc_law_amount kV_law_amount dc_law_amount pm_law_amount cd_law_amount ct_law_amount : Value}
    {f_law_signs : Addr} {od_law_signs an_law_signs : Option Addr} {sl_law_signs : Array (Option Value)} {oc_law_signs kV_law_signs dc_law_signs pm_law_signs cd_law_signs ct_law_signs : Value}
    {f_law_due : Addr} {od_law_due an_law_due : Option Addr} {sl_law_due : Array (Option Value)} {oc_law_due kV_law_due dc_law_due pm_law_due cd_law_due ct_law_due : Value}
    {f_law_is_unlike : Addr} {od_law_is_unlike an_law_is_unlike : Option Addr} {sl_law_is_unlike : Array (Option Value)} {oc_law_is_unlike kV_law_is_unlike dc_law_is_unlike pm_law_is_unlike cd_law_is_unlike ct_law_is_unlike : Value}
    {f_law_fine : Addr} {od_law_fine an_law_fine : Option Addr} {sl_law_fine : Array (Option Value)} {oc_law_fine kV_law_fine dc_law_fine pm_law_fine cd_law_fine ct_law_fine : Value}
    {f_law : Addr} {od_law an_law : Option Addr} {sl_law : Array (Option Value)} {oc_law kV_law dc_law pm_law cd_law ct_law : Value}
    {CA p0 p1 : Addr}
    (aC : PySem.W.nsIn K mainGlobals "Amount" = some (some (.ref CA)))
    (pg : PySem.W.plainGet K CA Str.empty = true)
    (ic : PySem.W.isClsIn K CA = true)
    (po : PySem.W.plainOver K CA = true)
    (sa : PySem.W.findIn K (.ref CA) "__setattr__" = some (some (.builtin "object.__setattr__")))
    (mk : PySem.W.makesIn K CA = true)
    (kc : PySem.W.keepIn K (.ref CA) = true)
    (ca : PySem.W.findIn K (.ref CA) "__class__" = some (some (.builtin "object.__class__")))
    (cn : PySem.W.specialIn K (.builtin "object.__class__") "__get__" = some (some (.builtin "getset_descriptor.__get__")))
    (ct : PySem.W.takesIn K (.builtin "object.__class__") = some true)
    (cm : PySem.W.mroIn K CA (.type "object") = some true)
    (ne : PySem.W.findIn K (.ref CA) "__ne__" = some (some (.builtin "object.__ne__")))
    (m_int : PySem.W.mroIn K CA (.type "int") = some false)
    (m_bool : PySem.W.mroIn K CA (.type "bool") = some false)
    (m_NoneType : PySem.W.mroIn K CA (.type "NoneType") = some false)
    (m_str : PySem.W.mroIn K CA (.type "str") = some false)
    (m_list : PySem.W.mroIn K CA (.type "list") = some false)
    (m_tuple : PySem.W.mroIn K CA (.type "tuple") = some false)
    (m_dict : PySem.W.mroIn K CA (.type "dict") = some false)
    (s0_at : PySem.W.findIn K (.ref CA) "own_number" = some (some (.ref p0)))
    (s0_get : PySem.W.specialIn K (.ref p0) "__get__" = some (some (.builtin "member_descriptor.__get__")))
    (s0_tk : PySem.W.takesIn K (.ref p0) = some true)
    (s0_ty : PySem.W.typeIn K (.ref p0) = some (.type "member_descriptor"))
    (s0_ix : PySem.W.slotIn K p0 CA = some 0)
    (s1_at : PySem.W.findIn K (.ref CA) "own_under" = some (some (.ref p1)))
    (s1_get : PySem.W.specialIn K (.ref p1) "__get__" = some (some (.builtin "member_descriptor.__get__")))
    (s1_tk : PySem.W.takesIn K (.ref p1) = some true)
    (s1_ty : PySem.W.typeIn K (.ref p1) = some (.type "member_descriptor"))
    (s1_ix : PySem.W.slotIn K p1 CA = some 1)
    (ty : PySem.W.typeIn K (.ref CA) = some (.type "type"))
    (a_is_integer : PySem.W.nsIn K mainGlobals "is_integer" = some (some (.ref f_is_integer)))
    (l_is_integer : K.lookup f_is_integer = some ⟨oc_is_integer, od_is_integer, .func (PySem.W.fnOf "is_integer" "is_integer" (defArgs s_is_integer) (defBody s_is_integer) (defScope s_is_integer) .none kV_is_integer dc_is_integer pm_is_integer an_is_integer cd_is_integer ct_is_integer), sl_is_integer⟩) (c_is_integer : PySem.W.codeIn K cd_is_integer "is_integer" = true) (k_is_integer : PySem.W.keepIn K (.ref f_is_integer) = true)
    (a_shared_by : PySem.W.nsIn K mainGlobals "shared_by" = some (some (.ref f_shared_by)))
    (l_shared_by : K.lookup f_shared_by = some ⟨oc_shared_by, od_shared_by, .func (PySem.W.fnOf "shared_by" "shared_by" (defArgs s_shared_by) (defBody s_shared_by) (defScope s_shared_by) .none kV_shared_by dc_shared_by pm_shared_by an_shared_by cd_shared_by ct_shared_by), sl_shared_by⟩) (c_shared_by : PySem.W.codeIn K cd_shared_by "shared_by" = true) (k_shared_by : PySem.W.keepIn K (.ref f_shared_by) = true)
    (a_Amount_init : PySem.W.findIn K (.ref CA) "__init__" = some (some (.ref f_Amount_init))) (i_Amount_init : PySem.W.isFn K (.ref f_Amount_init) = true)
    (l_Amount_init : K.lookup f_Amount_init = some ⟨oc_Amount_init, od_Amount_init, .func (PySem.W.fnOf "__init__" "Amount.__init__" (defArgs s_Amount_init) (defBody s_Amount_init) (defScope s_Amount_init) (.ref td_Amount_init) kV_Amount_init dc_Amount_init pm_Amount_init an_Amount_init cd_Amount_init ct_Amount_init), sl_Amount_init⟩) (c_Amount_init : PySem.W.codeIn K cd_Amount_init "Amount.__init__" = true) (k_Amount_init : PySem.W.keepIn K (.ref f_Amount_init) = true)
    (t_Amount_init : K.lookup td_Amount_init = some ⟨oct_Amount_init, odt_Amount_init, .seq #[.int 1 tk_Amount_init] n_Amount_init, slt_Amount_init⟩)
    (a_is_amount : PySem.W.nsIn K mainGlobals "is_amount" = some (some (.ref f_is_amount)))
    (l_is_amount : K.lookup f_is_amount = some ⟨oc_is_amount, od_is_amount, .func (PySem.W.fnOf "is_amount" "is_amount" (defArgs s_is_amount) (defBody s_is_amount) (defScope s_is_amount) .none kV_is_amount dc_is_amount pm_is_amount an_is_amount cd_is_amount ct_is_amount), sl_is_amount⟩) (c_is_amount : PySem.W.codeIn K cd_is_amount "is_amount" = true) (k_is_amount : PySem.W.keepIn K (.ref f_is_amount) = true)
    (a_amount_of : PySem.W.nsIn K mainGlobals "amount_of" = some (some (.ref f_amount_of)))
    (l_amount_of : K.lookup f_amount_of = some ⟨oc_amount_of, od_amount_of, .func (PySem.W.fnOf "amount_of" "amount_of" (defArgs s_amount_of) (defBody s_amount_of) (defScope s_amount_of) .none kV_amount_of dc_amount_of pm_amount_of an_amount_of cd_amount_of ct_amount_of), sl_amount_of⟩) (c_amount_of : PySem.W.codeIn K cd_amount_of "amount_of" = true) (k_amount_of : PySem.W.keepIn K (.ref f_amount_of) = true)
    (a_sign_beside : PySem.W.nsIn K mainGlobals "sign_beside" = some (some (.ref f_sign_beside)))
    (l_sign_beside : K.lookup f_sign_beside = some ⟨oc_sign_beside, od_sign_beside, .func (PySem.W.fnOf "sign_beside" "sign_beside" (defArgs s_sign_beside) (defBody s_sign_beside) (defScope s_sign_beside) .none kV_sign_beside dc_sign_beside pm_sign_beside an_sign_beside cd_sign_beside ct_sign_beside), sl_sign_beside⟩) (c_sign_beside : PySem.W.codeIn K cd_sign_beside "sign_beside" = true) (k_sign_beside : PySem.W.keepIn K (.ref f_sign_beside) = true)
    (a_Amount_eq : PySem.W.findIn K (.ref CA) "__eq__" = some (some (.ref f_Amount_eq))) (i_Amount_eq : PySem.W.isFn K (.ref f_Amount_eq) = true)
    (l_Amount_eq : K.lookup f_Amount_eq = some ⟨oc_Amount_eq, od_Amount_eq, .func (PySem.W.fnOf "__eq__" "Amount.__eq__" (defArgs s_Amount_eq) (defBody s_Amount_eq) (defScope s_Amount_eq) .none kV_Amount_eq dc_Amount_eq pm_Amount_eq an_Amount_eq cd_Amount_eq ct_Amount_eq), sl_Amount_eq⟩) (c_Amount_eq : PySem.W.codeIn K cd_Amount_eq "Amount.__eq__" = true) (k_Amount_eq : PySem.W.keepIn K (.ref f_Amount_eq) = true)
    (a_Amount_lt : PySem.W.findIn K (.ref CA) "__lt__" = some (some (.ref f_Amount_lt))) (i_Amount_lt : PySem.W.isFn K (.ref f_Amount_lt) = true)
    (l_Amount_lt : K.lookup f_Amount_lt = some ⟨oc_Amount_lt, od_Amount_lt, .func (PySem.W.fnOf "__lt__" "Amount.__lt__" (defArgs s_Amount_lt) (defBody s_Amount_lt) (defScope s_Amount_lt) .none kV_Amount_lt dc_Amount_lt pm_Amount_lt an_Amount_lt cd_Amount_lt ct_Amount_lt), sl_Amount_lt⟩) (c_Amount_lt : PySem.W.codeIn K cd_Amount_lt "Amount.__lt__" = true) (k_Amount_lt : PySem.W.keepIn K (.ref f_Amount_lt) = true)
    (a_Amount_le : PySem.W.findIn K (.ref CA) "__le__" = some (some (.ref f_Amount_le))) (i_Amount_le : PySem.W.isFn K (.ref f_Amount_le) = true)
    (l_Amount_le : K.lookup f_Amount_le = some ⟨oc_Amount_le, od_Amount_le, .func (PySem.W.fnOf "__le__" "Amount.__le__" (defArgs s_Amount_le) (defBody s_Amount_le) (defScope s_Amount_le) .none kV_Amount_le dc_Amount_le pm_Amount_le an_Amount_le cd_Amount_le ct_Amount_le), sl_Amount_le⟩) (c_Amount_le : PySem.W.codeIn K cd_Amount_le "Amount.__le__" = true) (k_Amount_le : PySem.W.keepIn K (.ref f_Amount_le) = true)
    (a_Amount_gt : PySem.W.findIn K (.ref CA) "__gt__" = some (some (.ref f_Amount_gt))) (i_Amount_gt : PySem.W.isFn K (.ref f_Amount_gt) = true)
    (l_Amount_gt : K.lookup f_Amount_gt = some ⟨oc_Amount_gt, od_Amount_gt, .func (PySem.W.fnOf "__gt__" "Amount.__gt__" (defArgs s_Amount_gt) (defBody s_Amount_gt) (defScope s_Amount_gt) .none kV_Amount_gt dc_Amount_gt pm_Amount_gt an_Amount_gt cd_Amount_gt ct_Amount_gt), sl_Amount_gt⟩) (c_Amount_gt : PySem.W.codeIn K cd_Amount_gt "Amount.__gt__" = true) (k_Amount_gt : PySem.W.keepIn K (.ref f_Amount_gt) = true)
    (a_Amount_ge : PySem.W.findIn K (.ref CA) "__ge__" = some (some (.ref f_Amount_ge))) (i_Amount_ge : PySem.W.isFn K (.ref f_Amount_ge) = true)
    (l_Amount_ge : K.lookup f_Amount_ge = some ⟨oc_Amount_ge, od_Amount_ge, .func (PySem.W.fnOf "__ge__" "Amount.__ge__" (defArgs s_Amount_ge) (defBody s_Amount_ge) (defScope s_Amount_ge) .none kV_Amount_ge dc_Amount_ge pm_Amount_ge an_Amount_ge cd_Amount_ge ct_Amount_ge), sl_Amount_ge⟩) (c_Amount_ge : PySem.W.codeIn K cd_Amount_ge "Amount.__ge__" = true) (k_Amount_ge : PySem.W.keepIn K (.ref f_Amount_ge) = true)
    (a_law_jar : PySem.W.nsIn K mainGlobals "_law_jar" = some (some (.ref f_law_jar)))
    (l_law_jar : K.lookup f_law_jar = some ⟨oc_law_jar, od_law_jar, .func (PySem.W.fnOf "_law_jar" "_law_jar" (defArgs s_law_jar) (defBody s_law_jar) (defScope s_law_jar) .none kV_law_jar dc_law_jar pm_law_jar an_law_jar cd_law_jar ct_law_jar), sl_law_jar⟩) (c_law_jar : PySem.W.codeIn K cd_law_jar "_law_jar" = true) (k_law_jar : PySem.W.keepIn K (.ref f_law_jar) = true)
    (a_law_take : PySem.W.nsIn K mainGlobals "_law_take" = some (some (.ref f_law_take)))
    (l_law_take : K.lookup f_law_take = some ⟨oc_law_take, od_law_take, .func (PySem.W.fnOf "_law_take" "_law_take" (defArgs s_law_take) (defBody s_law_take) (defScope s_law_take) .none kV_law_take dc_law_take pm_law_take an_law_take cd_law_take ct_law_take), sl_law_take⟩) (c_law_take : PySem.W.codeIn K cd_law_take "_law_take" = true) (k_law_take : PySem.W.keepIn K (.ref f_law_take) = true)
    (a_law_of : PySem.W.nsIn K mainGlobals "_law_of" = some (some (.ref f_law_of)))
    (l_law_of : K.lookup f_law_of = some ⟨oc_law_of, od_law_of, .func (PySem.W.fnOf "_law_of" "_law_of" (defArgs s_law_of) (defBody s_law_of) (defScope s_law_of) .none kV_law_of dc_law_of pm_law_of an_law_of cd_law_of ct_law_of), sl_law_of⟩) (c_law_of : PySem.W.codeIn K cd_law_of "_law_of" = true) (k_law_of : PySem.W.keepIn K (.ref f_law_of) = true)
    (a_law_frac : PySem.W.nsIn K mainGlobals "_law_frac" = some (some (.ref f_law_frac)))
    (l_law_frac : K.lookup f_law_frac = some ⟨oc_law_frac, od_law_frac, .func (PySem.W.fnOf "_law_frac" "_law_frac" (defArgs s_law_frac) (defBody s_law_frac) (defScope s_law_frac) .none kV_law_frac dc_law_frac pm_law_frac an_law_frac cd_law_frac ct_law_frac), sl_law_frac⟩) (c_law_frac : PySem.W.codeIn K cd_law_frac "_law_frac" = true) (k_law_frac : PySem.W.keepIn K (.ref f_law_frac) = true)
    (a_law_is_less : PySem.W.nsIn K mainGlobals "_law_is_less" = some (some (.ref f_law_is_less)))
    (l_law_is_less : K.lookup f_law_is_less = some ⟨oc_law_is_less, od_law_is_less, .func (PySem.W.fnOf "_law_is_less" "_law_is_less" (defArgs s_law_is_less) (defBody s_law_is_less) (defScope s_law_is_less) .none kV_law_is_less dc_law_is_less pm_law_is_less an_law_is_less cd_law_is_less ct_law_is_less), sl_law_is_less⟩) (c_law_is_less : PySem.W.codeIn K cd_law_is_less "_law_is_less" = true) (k_law_is_less : PySem.W.keepIn K (.ref f_law_is_less) = true)
    (a_law_near : PySem.W.nsIn K mainGlobals "_law_near" = some (some (.ref f_law_near)))
    (l_law_near : K.lookup f_law_near = some ⟨oc_law_near, od_law_near, .func (PySem.W.fnOf "_law_near" "_law_near" (defArgs s_law_near) (defBody s_law_near) (defScope s_law_near) .none kV_law_near dc_law_near pm_law_near an_law_near cd_law_near ct_law_near), sl_law_near⟩) (c_law_near : PySem.W.codeIn K cd_law_near "_law_near" = true) (k_law_near : PySem.W.keepIn K (.ref f_law_near) = true)
    (a_law_amount : PySem.W.nsIn K mainGlobals "_law_amount" = some (some (.ref f_law_amount)))
    (l_law_amount : K.lookup f_law_amount = some ⟨oc_law_amount, od_law_amount, .func (PySem.W.fnOf "_law_amount" "_law_amount" (defArgs s_law_amount) (defBody s_law_amount) (defScope s_law_amount) .none kV_law_amount dc_law_amount pm_law_amount an_law_amount cd_law_amount ct_law_amount), sl_law_amount⟩) (c_law_amount : PySem.W.codeIn K cd_law_amount "_law_amount" = true) (k_law_amount : PySem.W.keepIn K (.ref f_law_amount) = true)
    (a_law_signs : PySem.W.nsIn K mainGlobals "_law_signs" = some (some (.ref f_law_signs)))
    (l_law_signs : K.lookup f_law_signs = some ⟨oc_law_signs, od_law_signs, .func (PySem.W.fnOf "_law_signs" "_law_signs" (defArgs s_law_signs) (defBody s_law_signs) (defScope s_law_signs) .none kV_law_signs dc_law_signs pm_law_signs an_law_signs cd_law_signs ct_law_signs), sl_law_signs⟩) (c_law_signs : PySem.W.codeIn K cd_law_signs "_law_signs" = true) (k_law_signs : PySem.W.keepIn K (.ref f_law_signs) = true)
    (a_law_due : PySem.W.nsIn K mainGlobals "_law_due" = some (some (.ref f_law_due)))
    (l_law_due : K.lookup f_law_due = some ⟨oc_law_due, od_law_due, .func (PySem.W.fnOf "_law_due" "_law_due" (defArgs s_law_due) (defBody s_law_due) (defScope s_law_due) .none kV_law_due dc_law_due pm_law_due an_law_due cd_law_due ct_law_due), sl_law_due⟩) (c_law_due : PySem.W.codeIn K cd_law_due "_law_due" = true) (k_law_due : PySem.W.keepIn K (.ref f_law_due) = true)
    (a_law_is_unlike : PySem.W.nsIn K mainGlobals "_law_is_unlike" = some (some (.ref f_law_is_unlike)))
    (l_law_is_unlike : K.lookup f_law_is_unlike = some ⟨oc_law_is_unlike, od_law_is_unlike, .func (PySem.W.fnOf "_law_is_unlike" "_law_is_unlike" (defArgs s_law_is_unlike) (defBody s_law_is_unlike) (defScope s_law_is_unlike) .none kV_law_is_unlike dc_law_is_unlike pm_law_is_unlike an_law_is_unlike cd_law_is_unlike ct_law_is_unlike), sl_law_is_unlike⟩) (c_law_is_unlike : PySem.W.codeIn K cd_law_is_unlike "_law_is_unlike" = true) (k_law_is_unlike : PySem.W.keepIn K (.ref f_law_is_unlike) = true)
    (a_law_fine : PySem.W.nsIn K mainGlobals "_law_fine" = some (some (.ref f_law_fine)))
    (l_law_fine : K.lookup f_law_fine = some ⟨oc_law_fine, od_law_fine, .func (PySem.W.fnOf "_law_fine" "_law_fine" (defArgs s_law_fine) (defBody s_law_fine) (defScope s_law_fine) .none kV_law_fine dc_law_fine pm_law_fine an_law_fine cd_law_fine ct_law_fine), sl_law_fine⟩) (c_law_fine : PySem.W.codeIn K cd_law_fine "_law_fine" = true) (k_law_fine : PySem.W.keepIn K (.ref f_law_fine) = true)
    (a_law : PySem.W.nsIn K mainGlobals "law" = some (some (.ref f_law)))
    (l_law : K.lookup f_law = some ⟨oc_law, od_law, .func (PySem.W.fnOf "law" "law" (defArgs s_law) (defBody s_law) (defScope s_law) .none kV_law dc_law pm_law an_law cd_law ct_law), sl_law⟩) (c_law : PySem.W.codeIn K cd_law "law" = true) (k_law : PySem.W.keepIn K (.ref f_law) = true)
    (z_int : PySem.W.nsIn K mainGlobals "int" = some none)
    (z_bool : PySem.W.nsIn K mainGlobals "bool" = some none)
    (z_isinstance : PySem.W.nsIn K mainGlobals "isinstance" = some none)
    (z_abs : PySem.W.nsIn K mainGlobals "abs" = some none)
    (z_len : PySem.W.nsIn K mainGlobals "len" = some none)
    (z_range : PySem.W.nsIn K mainGlobals "range" = some none)
    (z_max : PySem.W.nsIn K mainGlobals "max" = some none)
    (z_min : PySem.W.nsIn K mainGlobals "min" = some none)
    (z_all : PySem.W.nsIn K mainGlobals "all" = some none)
    (z_repr : PySem.W.nsIn K mainGlobals "repr" = some none)
    : ∃ fd : FuncData, (∀ (s : Shared) (v : Value), BindsTo s fd ⟨[v], []⟩ [("_law_script", v)]) ∧ ∀ base : Heap, K.In base → base.Ns mainGlobals mg → FnG l.prog w K mg base CX0 10 fa fd ["_law_script"] (sp_law K) := by
  have e := hfa.symm.trans (PySem.W.mg_of X G a_law)
  cases e
  have F_is_integer := fun_mk (st := s_is_integer) l_is_integer c_is_integer k_is_integer
  have b_is_integer := F_is_integer.binds (ps := ["value"]) fun _ _ _ _ _ _ us hl => match us, hl with | [_], _ => rfl
  have g_is_integer : mg "is_integer" = some (.ref f_is_integer) := PySem.W.mg_of X G a_is_integer
  have F_shared_by := fun_mk (st := s_shared_by) l_shared_by c_shared_by k_shared_by
  have b_shared_by := F_shared_by.binds (ps := ["one", "other"]) fun _ _ _ _ _ _ us hl => match us, hl with | [_, _], _ => rfl
  have g_shared_by : mg "shared_by" = some (.ref f_shared_by) := PySem.W.mg_of X G a_shared_by
  have F_Amount_init : FunD K "__init__" "Amount.__init__" (defArgs s_Amount_init) (defBody s_Amount_init) (defScope s_Amount_init) [V.int 1] [] f_Amount_init _ := ⟨⟨_, _, _, _, _, _, _, _, _, _, rfl, l_Amount_init, c_Amount_init, .inr ⟨by simp, td_Amount_init, _, [.int 1 tk_Amount_init], n_Amount_init, rfl, t_Amount_init, rfl, .cons ⟨_, rfl⟩ .nil⟩, .inl rfl⟩, k_Amount_init⟩
  have F_is_amount := fun_mk (st := s_is_amount) l_is_amount c_is_amount k_is_amount
  have b_is_amount := F_is_amount.binds (ps := ["value"]) fun _ _ _ _ _ _ us hl => match us, hl with | [_], _ => rfl
  have g_is_amount : mg "is_amount" = some (.ref f_is_amount) := PySem.W.mg_of X G a_is_amount
  have F_amount_of := fun_mk (st := s_amount_of) l_amount_of c_amount_of k_amount_of
  have b_amount_of := F_amount_of.binds (ps := ["value"]) fun _ _ _ _ _ _ us hl => match us, hl with | [_], _ => rfl
  have g_amount_of : mg "amount_of" = some (.ref f_amount_of) := PySem.W.mg_of X G a_amount_of
  have F_sign_beside := fun_mk (st := s_sign_beside) l_sign_beside c_sign_beside k_sign_beside
  have b_sign_beside := F_sign_beside.binds (ps := ["one", "other"]) fun _ _ _ _ _ _ us hl => match us, hl with | [_, _], _ => rfl
  have g_sign_beside : mg "sign_beside" = some (.ref f_sign_beside) := PySem.W.mg_of X G a_sign_beside
  have F_Amount_eq := fun_mk (st := s_Amount_eq) l_Amount_eq c_Amount_eq k_Amount_eq
  have b_Amount_eq := F_Amount_eq.binds (ps := ["self", "other"]) fun _ _ _ _ _ _ us hl => match us, hl with | [_, _], _ => rfl
  have F_Amount_lt := fun_mk (st := s_Amount_lt) l_Amount_lt c_Amount_lt k_Amount_lt
  have b_Amount_lt := F_Amount_lt.binds (ps := ["self", "other"]) fun _ _ _ _ _ _ us hl => match us, hl with | [_, _], _ => rfl
  have F_Amount_le := fun_mk (st := s_Amount_le) l_Amount_le c_Amount_le k_Amount_le
  have b_Amount_le := F_Amount_le.binds (ps := ["self", "other"]) fun _ _ _ _ _ _ us hl => match us, hl with | [_, _], _ => rfl
  have F_Amount_gt := fun_mk (st := s_Amount_gt) l_Amount_gt c_Amount_gt k_Amount_gt
  have b_Amount_gt := F_Amount_gt.binds (ps := ["self", "other"]) fun _ _ _ _ _ _ us hl => match us, hl with | [_, _], _ => rfl
  have F_Amount_ge := fun_mk (st := s_Amount_ge) l_Amount_ge c_Amount_ge k_Amount_ge
  have b_Amount_ge := F_Amount_ge.binds (ps := ["self", "other"]) fun _ _ _ _ _ _ us hl => match us, hl with | [_, _], _ => rfl
  have F_law_jar := fun_mk (st := s_law_jar) l_law_jar c_law_jar k_law_jar
  have b_law_jar := F_law_jar.binds (ps := ["_law_script", "_law_k"]) fun _ _ _ _ _ _ us hl => match us, hl with | [_, _], _ => rfl
  have g_law_jar : mg "_law_jar" = some (.ref f_law_jar) := PySem.W.mg_of X G a_law_jar
  have F_law_take := fun_mk (st := s_law_take) l_law_take c_law_take k_law_take
  have b_law_take := F_law_take.binds (ps := ["_law_jar_here", "_law_upto"]) fun _ _ _ _ _ _ us hl => match us, hl with | [_, _], _ => rfl
  have g_law_take : mg "_law_take" = some (.ref f_law_take) := PySem.W.mg_of X G a_law_take
  have F_law_of := fun_mk (st := s_law_of) l_law_of c_law_of k_law_of
  have b_law_of := F_law_of.binds (ps := ["_law_jar_here", "_law_some"]) fun _ _ _ _ _ _ us hl => match us, hl with | [_, _], _ => rfl
  have g_law_of : mg "_law_of" = some (.ref f_law_of) := PySem.W.mg_of X G a_law_of
  have F_law_frac := fun_mk (st := s_law_frac) l_law_frac c_law_frac k_law_frac
  have b_law_frac := F_law_frac.binds (ps := ["_law_number", "_law_under"]) fun _ _ _ _ _ _ us hl => match us, hl with | [_, _], _ => rfl
  have g_law_frac : mg "_law_frac" = some (.ref f_law_frac) := PySem.W.mg_of X G a_law_frac
  have F_law_is_less := fun_mk (st := s_law_is_less) l_law_is_less c_law_is_less k_law_is_less
  have b_law_is_less := F_law_is_less.binds (ps := ["_law_one", "_law_other"]) fun _ _ _ _ _ _ us hl => match us, hl with | [_, _], _ => rfl
  have g_law_is_less : mg "_law_is_less" = some (.ref f_law_is_less) := PySem.W.mg_of X G a_law_is_less
  have F_law_near := fun_mk (st := s_law_near) l_law_near c_law_near k_law_near
  have b_law_near := F_law_near.binds (ps := ["_law_jar_here"]) fun _ _ _ _ _ _ us hl => match us, hl with | [_], _ => rfl
  have g_law_near : mg "_law_near" = some (.ref f_law_near) := PySem.W.mg_of X G a_law_near
  have F_law_amount := fun_mk (st := s_law_amount) l_law_amount c_law_amount k_law_amount
  have b_law_amount := F_law_amount.binds (ps := ["_law_jar_here", "_law_pair"]) fun _ _ _ _ _ _ us hl => match us, hl with | [_, _], _ => rfl
  have g_law_amount : mg "_law_amount" = some (.ref f_law_amount) := PySem.W.mg_of X G a_law_amount
  have F_law_signs := fun_mk (st := s_law_signs) l_law_signs c_law_signs k_law_signs
  have b_law_signs := F_law_signs.binds (ps := ["_law_one", "_law_other"]) fun _ _ _ _ _ _ us hl => match us, hl with | [_, _], _ => rfl
  have g_law_signs : mg "_law_signs" = some (.ref f_law_signs) := PySem.W.mg_of X G a_law_signs
  have F_law_due := fun_mk (st := s_law_due) l_law_due c_law_due k_law_due
  have b_law_due := F_law_due.binds (ps := ["_law_left", "_law_right"]) fun _ _ _ _ _ _ us hl => match us, hl with | [_, _], _ => rfl
  have g_law_due : mg "_law_due" = some (.ref f_law_due) := PySem.W.mg_of X G a_law_due
  have F_law_is_unlike := fun_mk (st := s_law_is_unlike) l_law_is_unlike c_law_is_unlike k_law_is_unlike
  have b_law_is_unlike := F_law_is_unlike.binds (ps := ["_law_made", "_law_odd"]) fun _ _ _ _ _ _ us hl => match us, hl with | [_, _], _ => rfl
  have g_law_is_unlike : mg "_law_is_unlike" = some (.ref f_law_is_unlike) := PySem.W.mg_of X G a_law_is_unlike
  have F_law_fine := fun_mk (st := s_law_fine) l_law_fine c_law_fine k_law_fine
  have b_law_fine := F_law_fine.binds (ps := ["_law_jar_here"]) fun _ _ _ _ _ _ us hl => match us, hl with | [_], _ => rfl
  have g_law_fine : mg "_law_fine" = some (.ref f_law_fine) := PySem.W.mg_of X G a_law_fine
  have F_law := fun_mk (st := s_law) l_law c_law k_law
  have b_law := F_law.binds (ps := ["_law_script"]) fun _ _ _ _ _ _ us hl => match us, hl with | [_], _ => rfl
  have cS : SCls K CA := ⟨pg, ic, po, sa⟩
  have cI : SIsi K CA := ⟨ca, cn, ct, cm⟩
  have cO : OwnC K CA := ⟨cS, cI, ne, m_int, m_bool, m_NoneType, m_str, m_list, m_tuple, m_dict⟩
  have cA : AmC K CA p0 p1 := AmC.of cO ⟨s0_at, s0_get, s0_tk, s0_ty, s0_ix, by decide⟩ ⟨s1_at, s1_get, s1_tk, s1_ty, s1_ix, by decide⟩ ty
  have gC : mg "Amount" = some (.ref CA) := PySem.W.mg_of X G aC
  have T : Txt K mg CA p0 p1 := ⟨cA, ⟨_, gC, rfl⟩, PySem.W.mg_none_of X G z_int, PySem.W.mg_none_of X G z_bool, PySem.W.mg_none_of X G z_isinstance, PySem.W.mg_none_of X G z_abs, PySem.W.mg_none_of X G z_len, PySem.W.mg_none_of X G z_range, PySem.W.mg_none_of X G z_max, PySem.W.mg_none_of X G z_min, PySem.W.mg_none_of X G z_all, PySem.W.mg_none_of X G z_repr⟩
  obtain ⟨ds1, v1, b1⟩ := F_Amount_init.binds1 (ps := ["self", "number", "under"]) 2 0 (by simp) rfl fun T kV doc pm an cdv ct us its h1 h2 => match us, h1, its, h2 with | [_, _], _, [_], _ => ⟨_, rfl, rfl⟩
  obtain ⟨ds2, v2, b2⟩ := F_Amount_init.binds1 (ps := ["self", "number", "under"]) 3 1 (by simp) rfl fun T kV doc pm an cdv ct us its h1 h2 => match us, h1, its, h2 with | [_, _, _], _, [_], _ => ⟨_, rfl, rfl⟩
  have M : Mk K CA f_Amount_init := ⟨mk, a_Amount_init, i_Amount_init, kc⟩
  refine ⟨PySem.W.fnOf "law" "law" (defArgs s_law) (defBody s_law) (defScope s_law) .none kV_law dc_law pm_law an_law cd_law ct_law, fun s v => .of_eq rfl, fun base _ _ => ?_⟩
  have c1 : Cal l.prog w K mg base 1 "is_integer" (sp_is_integer K CA) [] := ⟨_, _, _, _, ok_is_integer F_is_integer T, g_is_integer, k_is_integer, b_is_integer, .nil⟩
  have c2 : Cal l.prog w K mg base 1 "shared_by" sp_shared_by [] := ⟨_, _, _, _, ok_shared_by F_shared_by T, g_shared_by, k_shared_by, b_shared_by, .nil⟩
  have oI : FnOk l.prog w K mg base CX0 2 f_Amount_init _ _ (sp_init CA) := ok_init F_Amount_init T c1 c2
  have m1 : Mak l.prog w K mg base 2 "Amount" CA (sp_init CA) [.int 1] := ⟨_, _, _, _, M, oI, gC, b1, v1⟩
  have m2 : Mak l.prog w K mg base 2 "Amount" CA (sp_init CA) [] := ⟨_, _, _, _, M, oI, gC, b2, v2⟩
  have c3 : Cal l.prog w K mg base 2 "is_amount" (sp_is_amount K CA) [] := ⟨_, _, _, _, ok_is_amount F_is_amount T c1, g_is_amount, k_is_amount, b_is_amount, .nil⟩
  have c4 : Cal l.prog w K mg base 4 "amount_of" (sp_amount_of CA) [] := ⟨_, _, _, _, ok_amount_of F_amount_of T m1, g_amount_of, k_amount_of, b_amount_of, .nil⟩
  have c5 : Cal l.prog w K mg base 5 "sign_beside" (sp_sign CA) [] := ⟨_, _, _, _, ok_sign_beside F_sign_beside T c4, g_sign_beside, k_sign_beside, b_sign_beside, .nil⟩
  have cc : AmCmp l.prog w K mg base CA p0 p1 := ⟨cA, ⟨_, a_Amount_eq, i_Amount_eq, fnR_of (ok_eq F_Amount_eq T c3 c5) b_Amount_eq⟩, ⟨_, a_Amount_lt, i_Amount_lt, fnR_of (ok_lt F_Amount_lt T c3 c5) b_Amount_lt⟩, ⟨_, a_Amount_le, i_Amount_le, fnR_of (ok_le F_Amount_le T c3 c5) b_Amount_le⟩,
    ⟨_, a_Amount_gt, i_Amount_gt, fnR_of (ok_gt F_Amount_gt T c3 c5) b_Amount_gt⟩, ⟨_, a_Amount_ge, i_Amount_ge, fnR_of (ok_ge F_Amount_ge T c3 c5) b_Amount_ge⟩⟩
  have c6 : Cal l.prog w K mg base 1 "_law_jar" (sp_jar K) [] := ⟨_, _, _, _, ok_jar F_law_jar T, g_law_jar, k_law_jar, b_law_jar, .nil⟩
  have c7 : Cal l.prog w K mg base 1 "_law_take" sp_take [] := ⟨_, _, _, _, ok_take F_law_take T, g_law_take, k_law_take, b_law_take, .nil⟩
  have c8 : Cal l.prog w K mg base 2 "_law_of" (sp_of K) [] := ⟨_, _, _, _, ok_of F_law_of T c7, g_law_of, k_law_of, b_law_of, .nil⟩
  have c9 : Cal l.prog w K mg base 1 "_law_frac" sp_frac [] := ⟨_, _, _, _, ok_frac F_law_frac T, g_law_frac, k_law_frac, b_law_frac, .nil⟩
  have c10 : Cal l.prog w K mg base 1 "_law_is_less" sp_is_less [] := ⟨_, _, _, _, ok_is_less F_law_is_less T, g_law_is_less, k_law_is_less, b_law_is_less, .nil⟩
  have c11 : Cal l.prog w K mg base 2 "_law_near" sp_near [] := ⟨_, _, _, _, ok_near F_law_near T c7 c9, g_law_near, k_law_near, b_law_near, .nil⟩
  have c12 : Cal l.prog w K mg base 4 "_law_amount" (sp_amount CA) [] := ⟨_, _, _, _, ok_amount F_law_amount T c7 m2, g_law_amount, k_law_amount, b_law_amount, .nil⟩
  have c13 : Cal l.prog w K mg base 8 "_law_signs" (sp_signs CA) [] := ⟨_, _, _, _, ok_signs F_law_signs T cc, g_law_signs, k_law_signs, b_law_signs, .nil⟩
  have c14 : Cal l.prog w K mg base 2 "_law_due" sp_due [] := ⟨_, _, _, _, ok_due F_law_due T c10, g_law_due, k_law_due, b_law_due, .nil⟩
  have c15 : Cal l.prog w K mg base 8 "_law_is_unlike" (sp_unlike K CA) [] := ⟨_, _, _, _, ok_unlike F_law_is_unlike T cc, g_law_is_unlike, k_law_is_unlike, b_law_is_unlike, .nil⟩
  have c16 : CalG l.prog w K mg base 9 "_law_fine" sp_fine [] := ⟨_, _, _, _, ok_fine F_law_fine T c11 m1 m2 c12 c13 c14 c8 c15, g_law_fine, k_law_fine, b_law_fine, .nil⟩
  exact ok_law F_law T c16 c6
end Lw
open PySem PySem.W PyProof.Rows
set_option maxRecDepth 100000 in
set_option maxHeartbeats 0 in
theorem PySem.Challenge.cw_whoseuse_k03_amounts_compared_holds : PySem.Challenge.rw_whoseuse_k03_amounts_compared.Holds := by
  w_on; o_law; k_head; (case hw => w_witness2)
  k_fill
  refine WU.walk_ofG (l := PySem.Challenge.rw_whoseuse_k03_amounts_compared) (n := 63) (k := 10) (x := "_law_script") (CX := L2.CX0) (sp := fun _ K => Lw.sp_law K) rfl (by decide) rfl ⟨rfl, by decide, by decide⟩ (fun w h Y => PySem.W.kIn_of Y) ?F (fun w K H a ns h1 h2 h3 => ⟨a, ns, rfl, h3, h1, h2, fun _ => rfl⟩) (fun _ _ _ _ z => z)
  case F =>
    intro w mg fa h KX G hmg
    refine' Lw.all_mk KX G hmg ?aC ?pg ?ic ?po ?sa ?mk ?kc ?ca ?cn ?ct ?cm ?ne ?m_int ?m_bool ?m_NoneType ?m_str ?m_list ?m_tuple ?m_dict ?s0_at ?s0_get ?s0_tk ?s0_ty ?s0_ix ?s1_at ?s1_get ?s1_tk ?s1_ty ?s1_ix ?ty ?a_is_integer ?l_is_integer ?c_is_integer ?k_is_integer ?a_shared_by ?l_shared_by ?c_shared_by ?k_shared_by ?a_Amount_init ?i_Amount_init ?l_Amount_init ?c_Amount_init ?k_Amount_init ?t_Amount_init ?a_is_amount ?l_is_amount ?c_is_amount ?k_is_amount ?a_amount_of ?l_amount_of ?c_amount_of ?k_amount_of ?a_sign_beside ?l_sign_beside ?c_sign_beside ?k_sign_beside ?a_Amount_eq ?i_Amount_eq ?l_Amount_eq ?c_Amount_eq ?k_Amount_eq ?a_Amount_lt ?i_Amount_lt ?l_Amount_lt ?c_Amount_lt ?k_Amount_lt ?a_Amount_le ?i_Amount_le ?l_Amount_le ?c_Amount_le ?k_Amount_le ?a_Amount_gt ?i_Amount_gt ?l_Amount_gt ?c_Amount_gt ?k_Amount_gt ?a_Amount_ge ?i_Amount_ge ?l_Amount_ge ?c_Amount_ge ?k_Amount_ge ?a_law_jar ?l_law_jar ?c_law_jar ?k_law_jar ?a_law_take ?l_law_take ?c_law_take ?k_law_take ?a_law_of ?l_law_of ?c_law_of ?k_law_of ?a_law_frac ?l_law_frac ?c_law_frac ?k_law_frac ?a_law_is_less ?l_law_is_less ?c_law_is_less ?k_law_is_less ?a_law_near ?l_law_near ?c_law_near ?k_law_near ?a_law_amount ?l_law_amount ?c_law_amount ?k_law_amount ?a_law_signs ?l_law_signs ?c_law_signs ?k_law_signs ?a_law_due ?l_law_due ?c_law_due ?k_law_due ?a_law_is_unlike ?l_law_is_unlike ?c_law_is_unlike ?k_law_is_unlike ?a_law_fine ?l_law_fine ?c_law_fine ?k_law_fine ?a_law ?l_law ?c_law ?k_law ?z_int ?z_bool ?z_isinstance ?z_abs ?z_len ?z_range ?z_max ?z_min ?z_all ?z_repr
    (case aC => k_is)
    (case pg => k_is)
    (case ic => k_is)
    (case po => k_is)
    (case sa => k_is)
    (case mk => k_is)
    (case kc => k_is)
    (case ca => k_is)
    (case cn => k_is)
    (case ct => k_is)
    (case cm => k_is)
    (case ne => k_is)
    (case m_int => k_is)
    (case m_bool => k_is)
    (case m_NoneType => k_is)
    (case m_str => k_is)
    (case m_list => k_is)
    (case m_tuple => k_is)
    (case m_dict => k_is)
    (case s0_at => k_is)
    (case s0_get => k_is)
    (case s0_tk => k_is)
    (case s0_ty => k_is)
    (case s0_ix => k_is)
    (case s1_at => k_is)
    (case s1_get => k_is)
    (case s1_tk => k_is)
    (case s1_ty => k_is)
    (case s1_ix => k_is)
    (case ty => k_is)
    (case a_is_integer => k_is)
    (case l_is_integer => k_is)
    (case c_is_integer => k_is)
    (case k_is_integer => k_is)
    (case a_shared_by => k_is)
    (case l_shared_by => k_is)
    (case c_shared_by => k_is)
    (case k_shared_by => k_is)
    (case a_Amount_init => k_is)
    (case i_Amount_init => k_is)
    (case l_Amount_init => k_is)
    (case c_Amount_init => k_is)
    (case k_Amount_init => k_is)
    (case t_Amount_init => k_is)
    (case a_is_amount => k_is)
    (case l_is_amount => k_is)
    (case c_is_amount => k_is)
    (case k_is_amount => k_is)
    (case a_amount_of => k_is)
    (case l_amount_of => k_is)
    (case c_amount_of => k_is)
    (case k_amount_of => k_is)
    (case a_sign_beside => k_is)
    (case l_sign_beside => k_is)
    (case c_sign_beside => k_is)
    (case k_sign_beside => k_is)
    (case a_Amount_eq => k_is)
    (case i_Amount_eq => k_is)
    (case l_Amount_eq => k_is)
    (case c_Amount_eq => k_is)
    (case k_Amount_eq => k_is)
    (case a_Amount_lt => k_is)
    (case i_Amount_lt => k_is)
    (case l_Amount_lt => k_is)
    (case c_Amount_lt => k_is)
    (case k_Amount_lt => k_is)
    (case a_Amount_le => k_is)
    (case i_Amount_le => k_is)
    (case l_Amount_le => k_is)
    (case c_Amount_le => k_is)
    (case k_Amount_le => k_is)
    (case a_Amount_gt => k_is)
    (case i_Amount_gt => k_is)
    (case l_Amount_gt => k_is)
    (case c_Amount_gt => k_is)
    (case k_Amount_gt => k_is)
    (case a_Amount_ge => k_is)
    (case i_Amount_ge => k_is)
    (case l_Amount_ge => k_is)
    (case c_Amount_ge => k_is)
    (case k_Amount_ge => k_is)
    (case a_law_jar => k_is)
    (case l_law_jar => k_is)
    (case c_law_jar => k_is)
    (case k_law_jar => k_is)
    (case a_law_take => k_is)
    (case l_law_take => k_is)
    (case c_law_take => k_is)
    (case k_law_take => k_is)
    (case a_law_of => k_is)
    (case l_law_of => k_is)
    (case c_law_of => k_is)
    (case k_law_of => k_is)
    (case a_law_frac => k_is)
    (case l_law_frac => k_is)
    (case c_law_frac => k_is)
    (case k_law_frac => k_is)
    (case a_law_is_less => k_is)
    (case l_law_is_less => k_is)
    (case c_law_is_less => k_is)
    (case k_law_is_less => k_is)
    (case a_law_near => k_is)
    (case l_law_near => k_is)
    (case c_law_near => k_is)
    (case k_law_near => k_is)
    (case a_law_amount => k_is)
    (case l_law_amount => k_is)
    (case c_law_amount => k_is)
    (case k_law_amount => k_is)
    (case a_law_signs => k_is)
    (case l_law_signs => k_is)
    (case c_law_signs => k_is)
    (case k_law_signs => k_is)
    (case a_law_due => k_is)
    (case l_law_due => k_is)
    (case c_law_due => k_is)
    (case k_law_due => k_is)
    (case a_law_is_unlike => k_is)
    (case l_law_is_unlike => k_is)
    (case c_law_is_unlike => k_is)
    (case k_law_is_unlike => k_is)
    (case a_law_fine => k_is)
    (case l_law_fine => k_is)
    (case c_law_fine => k_is)
    (case k_law_fine => k_is)
    (case a_law => k_is)
    (case l_law => k_is)
    (case c_law => k_is)
    (case k_law => k_is)
    (case z_int => k_is)
    (case z_bool => k_is)
    (case z_isinstance => k_is)
    (case z_abs => k_is)
    (case z_len => k_is)
    (case z_range => k_is)
    (case z_max => k_is)
    (case z_min => k_is)
    (case z_all => k_is)
    (case z_repr => k_is)
#print axioms PySem.Challenge.cw_whoseuse_k03_amounts_compared_holds
