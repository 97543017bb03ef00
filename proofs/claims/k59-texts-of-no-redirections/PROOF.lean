import PyProof.Rows.All
import Wide.All
import OpenK.AllK
import Wide.FinOn
import HandS.ForMost
import HandS.Exc
import HandS.TupAny
import HandS.TupMul
import HandS.IsInst
import HandS.RaiseMore
import HandS.FStr
import HandS.Deep
import HandS.NoneIn
import KE.KUnpackStar
import HandS.Flow
import KE.GoesEnum
import PyProof.Rows.CallKwBuiltin
import HandS.SortKw
import HandS.ListItems
import HandS.Zip
import KE.KDictZip
import PyProof.RowDictHeap
import HandS.Defaults
import HandS.More
import PyProof.EqAt
import HandS.Text
import HandS.TupLe
import PyProof.NeKinds
import HandS.Style
import KE.GoesZip
import KE.GoesMore
import HandS.SetFor
import HandS.Strs
import PyProof.Rows.SortShellAny
import HandS.SetBool
import PyProof.ListRange
import KE.KRevSl
import HandS.Ends
import HandS.ExcValue
import KE.KExcInit
import KE.KTryMore
import HandS.ExcIs
import HandS.ExcField
import PyProof.ExcBaseAll.LookupError
import PyProof.ExcBaseAll.OverflowError
import PyProof.ExcBaseAll.ValueError
import PyProof.ExcBaseAll.RuntimeError
import PySem.Challenge.RW_gapdup_k59_texts_of_no_redirections
set_option Elab.async false
set_option linter.all false
set_option maxRecDepth 100000
/-! defs that are called where no text of a container is being made (guards) -/
namespace GD
open PySem PySem.Spec PyProof.Rows L2
/-- at a: an error that was caught; its class, its dict -/
def XO (cls : Value) (d : Option Addr) (a : Addr) : HO := .ext fun h => ∃ (oe : Obj) (vs : Array Value), h.get? a = some oe ∧ Zc cls d oe ∧ oe.data = .fields vs
/-- the data that stands for an error: its class's name, its field -/
def excD (nm f : Str) (d : PyData) : PyData := .dict [(.none, .str nm), (.str f, d)]
def isExc : PyData → Bool
  | .dict ((.none, _) :: _) => true
  | _ => false
structure FnG (P : Program) (w : World) (K : PySem.W.Frag) (mg : Str → Option Value) (base : Heap)
    (CX : CXT) (k : Nat) (f : Addr) (fd : FuncData) (ps : List Str) (sp : Sp) : Prop where
  len : ∀ vs H Q E, sp vs H Q E → vs.length = ps.length
  run : ∀ (A : Around) (outer : List Env) (s : Shared) (H : Hp) (args : Args) (us : List Value) (vs : List V) (Q : VK) (E : XK),
    A.guards = some [] → Room k A → Env0 P w K mg base A outer s H →
    BindsTo s fd args (ps.zip us) → Vals vs us → sp vs H Q E →
    codeAny (model P w) A (.call (.ref f) args) (CR CX outer P w H s Q E) s
section
variable {P : Program} {w : World} {K : PySem.W.Frag} {mg : Str → Option Value} {base : Heap} {CX : CXT}
variable {j k : Nat} {f : Addr} {fd : FuncData} {ps : List Str} {sp sp' : Sp}
theorem ofOk (F : FnOk P w K mg base CX k f fd ps sp) : FnG P w K mg base CX k f fd ps sp where
  len := F.len
  run := fun A outer s H args us vs Q E _ hr e b r h => F.run A outer s H args us vs Q E hr e b r h
theorem FnG.mono (F : FnG P w K mg base CX j f fd ps sp) (h : j ≤ k) : FnG P w K mg base CX k f fd ps sp where
  len := F.len
  run := fun A outer s H args us vs Q E g hr e b r q => F.run A outer s H args us vs Q E g (hr.mono h) e b r q
end
section
variable {X : Cx} {CX : CXT} {k : Nat} {f : Addr} {fd : FuncData} {ps ks : List Str} {sp : Sp}
variable {dvs : List V} {ds : List Value} {E : XK} {x : Str} {p pos : Pos} {e : Expr} {es : List Expr} {t tk : TA} {kws : List Keyword}
variable {g : List Value → List Value → List Value} {gV : List V → List V → List V}
theorem out_g {pins : List (Addr × Obj)} {σ : L2.St} {H : Hp} {s : Shared} {Q : VK} (hx : Passes CX X E) (I : Inv X pins σ H s)
    (r : Result) (s' : Shared) (hq : CR CX X.stack X.prog X.w H s Q E r s') :
    (match r with
      | .ok (.ret u) => EP X pins σ Q u s'
      | .ok _ => False
      | .error e => X.xe e s') := by
  cases r with
  | error e => exact hx pins σ H s e s' I hq
  | ok fl =>
    cases fl with
    | ret u => exact I.after hq
    | next => exact (show False from hq)
    | brk => exact (show False from hq)
    | cont => exact (show False from hq)
theorem run_g {pins : List (Addr × Obj)} {σ : L2.St} {H : Hp} {s : Shared} {Q : VK} {us : List Value} {vs : List V}
    (F : FnG X.prog X.w X.K X.mg X.base CX k f fd ps sp) (hg : X.A.guards = some []) (hr : Room k X.A) (hb : Binds X.K fd ps ds) (hd : Vals dvs ds)
    (hx : Passes CX X E) (I : Inv X pins σ H s) (r : Vals vs us) (h : sp (vs ++ dvs) H Q E) :
    wpAny (model X.prog X.w) X.A (call (.ref f) us) (EP X pins σ Q) X.xe s := by
  have r2 : Vals (vs ++ dvs) (us ++ ds) := Vals.append r hd
  have hl : (us ++ ds).length = ps.length := (Vals.length r2).symm.trans (F.len _ _ _ _ h)
  refine wpAny_call (codeAny_mono (F.run X.A X.stack s H ⟨us, []⟩ (us ++ ds) (vs ++ dvs) Q E hg hr I.env0 (hb s us I.kIn hl) r2 h) ?_)
  intro r s' hq
  have z := out_g hx I r s' hq
  cases r with
  | error e => exact z
  | ok fl => cases fl <;> first | exact z | exact (show False from z).elim
theorem pe_callG (F : FnG X.prog X.w X.K X.mg X.base CX k f fd ps sp) (hgd : X.A.guards = some []) (hr : Room k X.A) (hg : Gl X x)
    (hm : X.mg x = some (.ref f)) (hk : PySem.W.keepIn X.K (.ref f) = true) (hb : Binds X.K fd ps ds) (hd : Vals dvs ds) (hx : Passes CX X E)
    (ha : PA X (e :: es) t) (hdb : (x == ("__debug__" : Str)) = false := by decide)
    (he : starEach (e :: es) X.env = (false, eval e X.env) :: starEach es X.env := by rfl)
    (hpl : (backTo pos (starEach es X.env)).any (·.1) = false := by rfl) :
    PE X (.Call (.Name x p) (e :: es) [] pos) (tCall sp dvs E t) := by
  constructor
  intro pins s σ H Q I h
  refine wpAny_Call_Name_kw (ld_glob I hg hm ?_ hdb)
  refine PySem.W.callWith_K (h₀ := X.base) I.ok.mod.kin hk (thn (ha.run pos pins s σ H _ I h) ?_) he hpl
  rintro us s1 ⟨vs, H1, I1, r, q⟩
  exact ⟨I1.kIn, run_g F hgd hr hb hd hx I1 r q⟩
theorem pe_callG0 (F : FnG X.prog X.w X.K X.mg X.base CX k f fd ps sp) (hgd : X.A.guards = some []) (hr : Room k X.A) (hg : Gl X x)
    (hm : X.mg x = some (.ref f)) (hk : PySem.W.keepIn X.K (.ref f) = true) (hb : Binds X.K fd ps ds) (hd : Vals dvs ds) (hx : Passes CX X E)
    (hdb : (x == ("__debug__" : Str)) = false := by decide) : PE X (.Call (.Name x p) [] [] pos) (tCall sp dvs E tNil) := by
  constructor
  intro pins s σ H Q I h
  refine wpAny_Call_Name_kw (ld_glob I hg hm ?_ hdb)
  exact PySem.W.callWith_K0 I.kIn hk (run_g (us := []) F hgd hr hb hd hx I .nil h)
theorem run_gk {pins : List (Addr × Obj)} {σ : L2.St} {H : Hp} {s : Shared} {Q : VK} {us ws : List Value} {vs zs : List V}
    (F : FnG X.prog X.w X.K X.mg X.base CX k f fd ps sp) (hgd : X.A.guards = some []) (hr : Room k X.A) (hb : KBinds X.K fd ps ks g gV)
    (hx : Passes CX X E) (I : Inv X pins σ H s) (r : Vals vs us) (rz : Vals zs ws) (h : sp (gV vs zs) H Q E) :
    wpAny (model X.prog X.w) X.A (call (.ref f) us (ks.zip ws)) (EP X pins σ Q) X.xe s := by
  have r2 := hb.rel r rz
  have hl : (g us ws).length = ps.length := (Vals.length r2).symm.trans (F.len _ _ _ _ h)
  refine wpAny_call (codeAny_mono (F.run X.A X.stack s H ⟨us, ks.zip ws⟩ (g us ws) (gV vs zs) Q E hgd hr I.env0 (hb.to s us ws I.kIn hl) r2 h) ?_)
  intro r s' hq
  have z := out_g hx I r s' hq
  cases r with
  | error e => exact z
  | ok fl => cases fl <;> first | exact z | exact (show False from z).elim
end
/-- a def, by its body, where the guards are known -/
theorem fn_ofG {CX : CXT} {P : Program} {w : World} {K : PySem.W.Frag} {mg : Str → Option Value} {base : Heap} {k : Nat} {f : Addr}
    {name qual : Str} {params : Arguments} {body : List Stmt} {scope : Scope} {dV kV doc pm cdv ct oc : Value} {an od : Option Addr}
    {osl : Array (Option Value)} {N ps : List Str} {sp : Sp}
    (lk : K.lookup f = some ⟨oc, od, .func (PySem.W.fnOf name qual params body scope dV kV doc pm an cdv ct), osl⟩)
    (hcd : PySem.W.codeIn K cdv qual = true) (S : FnScope N ps scope) (len : ∀ vs H Q E, sp vs H Q E → vs.length = ps.length)
    (hbody : ∀ (A : Around) (outer : List Env) (s : Shared) (H : Hp) (vs : List V) (Q : VK) (E : XK), A.guards = some [] →
      Room k (A.deeper (envOfC qual scope s.heap.objs.size f cdv)) → sp vs H Q E →
      ∃ t, PSs (cxOf CX P w K mg base N qual scope f cdv A outer s H E) body t ∧ t { nx := fun _ H' => Q .non H', rt := Q } (L2.start N vs) H) :
    FnG P w K mg base CX (k + 1) f (PySem.W.fnOf name qual params body scope dV kV doc pm an cdv ct) ps sp := by
  constructor
  · exact len
  intro A outer s H args us vs Q E hg hr e0 hb r hsp
  have hl := len _ _ _ _ hsp
  have keeps : ∀ b o, base.get? b = some o → s.heap.get? b = some o := fun b o e => (e0.bs b o e).1
  have KX : K.In s.heap := e0.mod.kin.keeps keeps
  have lim : s.heap.NoLimit := e0.mod.nolimit.keeps keeps
  have hkind : ∀ y ∈ ps.zip us, scope.names.lookup y.1 = some .local ∨
      (scope.names.lookup y.1 = some .cell ∧ ((cellsFrom (s.heap.objs.size + 1) scope.names []).lookup y.1).isSome = true) := by
    rintro ⟨n, v⟩ hy
    exact (S.par n (List.of_mem_zip hy).1).imp id fun q => ⟨q, PySem.W.cellsFrom_some _ _ _ (.inl q)⟩
  refine codeAny_call_function hr.depth (KX _ _ lk) rfl S.co S.gen rfl (PySem.W.codeRec_of KX hcd) (hb _ _ _ _ ?_)
  refine wpAny_newFunctionEnv_cells S.kind hkind ?_
  rintro env rfl s1 x
  refine ⟨lim.keeps x.toInCall.keep, codeAny_func ?_⟩
  obtain ⟨t, ht, hq⟩ := hbody A outer s H vs Q E hg (hr.deeper _) hsp
  have I := inv_start (E := E) (CX := CX) S hr.hd e0 hl r x
  refine wpAny_mono (ht.run [] s1 (L2.start N vs) H _ I hq) ?_ (fun e s' hs => hs)
  intro fl s' hs
  have fin : ∀ {σ' : L2.St} {H' : Hp} {v : V} {u : Value}, Inv (cxOf CX P w K mg base N qual scope f cdv A outer s H E) [] σ' H' s' →
      RelV v u → Q v H' → CE outer P w H s Q u s' := by
    intro σ' H' v u J rv q
    exact ⟨v, H', J.os, J.bare, J.base, J.hok, rv, q⟩
  cases fl with
  | ret u =>
    rcases hs with ⟨v, σ', H', J, rv, q⟩
    exact fin J rv q
  | next =>
    rcases hs with ⟨σ', H', J, q⟩
    exact fin (v := V.non) (u := Value.none) J rfl q
  | brk =>
    rcases hs with ⟨_, _, _, q⟩
    exact (show False from q).elim
  | cont =>
    rcases hs with ⟨_, _, _, q⟩
    exact (show False from q).elim
theorem okG {P : Program} {w : World} {K : PySem.W.Frag} {mg : Str → Option Value} {base : Heap} {x qual : Str} {st : Stmt} {f : Addr} {fd : FuncData}
    {N ps : List Str} {k : Nat} {sp : Sp} (F : Fun K x qual st f fd) (S : FnScope N ps (defScope st)) (len : ∀ vs H Q E, sp vs H Q E → vs.length = ps.length)
    (hbody : ∀ (cdv : Value) (A : Around) (outer : List Env) (s : Shared) (H : Hp) (vs : List V) (Q : VK) (E : XK), A.guards = some [] →
      Room k (A.deeper (envOfC qual (defScope st) s.heap.objs.size f cdv)) → sp vs H Q E →
      ∃ t, PSs (cxOf CX0 P w K mg base N qual (defScope st) f cdv A outer s H E).nox (defBody st) t ∧
        t { nx := fun _ H' => Q .non H', rt := Q } (L2.start N vs) H) : FnG P w K mg base CX0 (k + 1) f fd ps sp := by
  obtain ⟨oc, od, kV, doc, pm, an, cdv, ct, osl, rfl, lk, hcd⟩ := F.ex
  refine fn_ofG lk hcd S len ?_
  intro A outer s H vs Q E hg hr hsp
  obtain ⟨t, h, q⟩ := hbody cdv A outer s H vs Q E hg hr hsp
  exact ⟨t, PSs.nox h, q⟩
/-! the law's own call -/
theorem lawG {P : Program} {w : World} {K : PySem.W.Frag} {mg mb : Str → Option Value} {CX : CXT} {k : Nat} {fa a : Addr} {fd : FuncData} {x : Str}
    {sp : Sp} {s₁ : Shared} {vs : List Value} {ns : List Int} (KX : K.In s₁.heap) (hns : s₁.heap.Ns mainGlobals mg) (hb : s₁.heap.Ns builtinsNs mb)
    (hbb : ∀ x : Str, x ≠ "__name__" → mb x = bootBuiltins x) (hlim : s₁.heap.NoLimit) (hg : s₁.gens = #[])
    (ha : s₁.heap.get? a = some { cls := .type "list", data := .seq vs.toArray }) (hi : IntsAre vs ns) (hl : ns.length ≤ sizeLine) (hr : Room k callerA)
    (F : ∀ base : Heap, K.In base → base.Ns mainGlobals mg → FnG P w K mg base CX k fa fd [x] sp)
    (hbind : ∀ (s : Shared) (u : Value), BindsTo s fd ⟨[u], []⟩ [(x, u)])
    (hsp : ∀ H : Hp, Only H → SqL K H a (ns.map V.int) → sp [.ref a] H (fun v _ => v = .bl true) fun _ _ _ => False)
    (hCX : ∀ H e s', CX [] H s₁ (fun _ _ _ => False) e s' → False) :
    codeAny (model P w) callerA (.call (.ref fa) ⟨[.ref a], []⟩)
      (fun r s' => r = .ok (.ret (.bool true)) ∧ OldK s₁.heap s'.heap ∧ s'.os = s₁.os ∧ AllBare s'.gens) s₁ := by
  have rv := vals_ints hi
  have lenV := hi.length
  -- whatever is tracked at the entry: the script or nothing
  have core : ∀ H : Hp, Only H → SqL K H a (ns.map V.int) → HOk P w H s₁.heap → (∀ b, H b ≠ none → b = a) → (H a ≠ none → K.lookup a = none) →
      codeAny (model P w) callerA (.call (.ref fa) ⟨[.ref a], []⟩)
        (fun r s' => r = .ok (.ret (.bool true)) ∧ OldK s₁.heap s'.heap ∧ s'.os = s₁.os ∧ AllBare s'.gens) s₁ := by
    intro H hO hS hok hA hK
    have none_of : ∀ {b : Addr}, b ≠ a → H b = none := by
      intro b hb
      cases q : H b with
      | none => rfl
      | some u => exact absurd (hA b (by rw [q]; exact nofun)) hb
    have not_dict : ∀ {b : Addr} {o : Obj} {es : Array DictEntry} {ep : Nat}, s₁.heap.get? b = some o → o.data = .dict es ep → H b = none := by
      intro b o es ep e d
      refine none_of fun z => ?_
      subst z
      rw [ha] at e
      cases e
      exact nomatch d
    have nsK : ∀ {b : Addr} {m : Str → Option Value}, s₁.heap.Ns b m → (hidT s₁.heap H).Ns b m := by
      rintro b m ⟨o, es, ep, e, d, r⟩
      exact ⟨o, es, ep, hidT_get e (not_dict e d), d, r⟩
    have hKb : K.In (hidT s₁.heap H) := by
      intro b o e
      refine hidT_get (KX b o e) ?_
      cases q : H b with
      | none => rfl
      | some u =>
        have z : b = a := hA b (by rw [q]; exact nofun)
        subst z
        rw [hK (by rw [q]; exact nofun)] at e
        cases e
    have hM : Mod K mg (hidT s₁.heap H) := ⟨hKb, nsK hns, ⟨mb, nsK hb, hbb⟩, Exists.elim hlim fun mc q => ⟨mc, nsK q.1, q.2⟩⟩
    have e0 : Env0 P w K mg (hidT s₁.heap H) callerA [] s₁ H :=
      { frames := rfl, mod := hM, bs := fun b o e => of_hidT e, bsz := Nat.le_of_eq (hidT_size _ _), funs := trivial,
        frf := fun b hb => by simp [frs] at hb, hok := hok, bare := .of_eq hg }
    have run := (F _ hKb (nsK hns)).run callerA [] s₁ H ⟨[.ref a], []⟩ [.ref a] [.ref a] _ _ rfl hr e0 (hbind s₁ (.ref a)) (.cons rfl .nil) (hsp H hO hS)
    refine codeAny_mono run ?_
    intro r s' h
    cases r with
    | error e => exact (hCX H e s' h).elim
    | ok fl =>
      cases fl with
      | next => exact (show False from h).elim
      | brk => exact (show False from h).elim
      | cont => exact (show False from h).elim
      | ret u =>
        rcases h with ⟨v, H', os, bare, un, hok', r', q⟩
        have qv : v = .bl true := q
        subst qv
        have hu : u = Value.bool true := r'
        subst hu
        refine ⟨rfl, OldK.of_keep ?_, os, bare⟩
        intro b o e
        cases q : H b with
        | none => exact un.keep b o e q (by simp [frs]) (by simp)
        | some u =>
          rcases hO b with z | ⟨ob, xs, z⟩
          · rw [q] at z
            cases z
          · have e1 := (hok b _ z).1
            have e2 := (hok' b _ (un.frzs b ob _ z)).1
            rw [e] at e1
            cases e1
            exact e2
  cases hk : K.lookup a with
  | some o =>
    have e := KX a o hk
    rw [ha] at e
    cases e
    have hS : SqL K (fun _ => none) a (ns.map V.int) :=
      .inr ⟨_, vs.toArray, _, hk, rfl, rfl, rfl, by rw [List.size_toArray, lenV]; exact hl, by simpa using rv⟩
    exact core (fun _ => none) (fun _ => .inl rfl) hS (fun b u z => nomatch (show (none : Option HO) = some u from z)) (fun b z => absurd rfl z) fun z => absurd rfl z
  | none =>
    let ob : Obj := { cls := .type "list", data := .seq vs.toArray }
    have here : ∀ {b : Addr}, b = a → (fun b => if b = a then some (HO.frz ob (.lst (ns.map V.int))) else none) b = some (.frz ob (.lst (ns.map V.int))) := fun h => if_pos h
    have off : ∀ {b : Addr}, b ≠ a → (fun b => if b = a then some (HO.frz ob (.lst (ns.map V.int))) else none) b = none := fun h => if_neg h
    refine core (fun b => if b = a then some (.frz ob (.lst (ns.map V.int))) else none) ?_ (.inl (.inr ⟨ob, here rfl⟩)) ?_ ?_ fun _ => hk
    · intro b
      by_cases hb : b = a
      · exact .inr ⟨_, _, here hb⟩
      · exact .inl (off hb)
    · intro b u z
      by_cases hb : b = a
      · have z' := (here hb).symm.trans z
        cases z'
        subst hb
        exact ⟨ha, by rw [List.length_map]; exact hl, vs, _, rv, ha⟩
      · have z' := (off hb).symm.trans z
        cases z'
    · intro b z
      by_cases hb : b = a
      · exact hb
      · exact absurd (off hb) z
theorem walkG {l : PySem.W.OpenLaw} {n k : Nat} {q : Program} {loose : List Str} {XP : (Str → Option Value) → Heap → Prop} {YP : World → Heap → Prop}
    {d : DefRec} {K : Params → PySem.W.Frag} {CX : World → CXT} {sp : World → Sp} {x : Str}
    (hn : l.most = some n) (hn2 : n ≤ sizeLine) (hdf : d.params.defaults = []) (hr : Room k callerA)
    (hY : ∀ (w : World) (h : Heap), YP w h → (K w.params).In h)
    (F : ∀ (w : World) (mg : Str → Option Value) (fa : Addr) (h : Heap), (K w.params).In h → h.Ns mainGlobals mg → mg d.name = some (.ref fa) →
      ∃ fd : FuncData, (∀ (s : Shared) (u : Value), BindsTo s fd ⟨[u], []⟩ [(x, u)]) ∧
        ∀ base : Heap, (K w.params).In base → base.Ns mainGlobals mg → FnG l.prog w (K w.params) mg base (CX w) k fa fd [x] (sp w))
    (hsp : ∀ (w : World) (H : Hp) (a : Addr) (ns : List Int), ns.length ≤ n → Only H → SqL (K w.params) H a (ns.map V.int) →
      sp w [.ref a] H (fun v _ => v = .bl true) fun _ _ _ => False)
    (hCX : ∀ (w : World) (H : Hp) (s : Shared) (e : Value) (s' : Shared), CX w [] H s (fun _ _ _ => False) e s' → False) :
    PySem.W.WalkO q loose XP YP l.row.toRowW d [] (fun f vs => PySem.call f vs) := by
  refine Att.attach_call hn hdf ?_
  intro w s₀ s₁ mg mb fa o pm cd doc a vs ns G Y ho hd hcd hmg hobj hints hlen hg
  have KX := hY w _ Y
  obtain ⟨fd, hb, hF⟩ := F w mg fa _ KX G.T.g hmg
  exact lawG KX G.T.g G.T.b G.T.builtins G.T.nolimit hg hobj hints (Nat.le_trans hlen hn2) hr hF hb
    (fun H hO hS => hsp w H a ns hlen hO hS) fun H e s' => hCX w H s₁ e s'
end GD

namespace GD
open PySem PySem.Spec PyProof.Rows L2
abbrev D := PyData
/-! ### data in the abstract heap, apart from a set of addresses -/
def keyD : L2.Key → D
  | .inl i => .int i
  | .inr x => .str x
inductive Mu where
  | l (ds : List D)
  | m (kvs : List (L2.Key × D))
def Mu.toD : Mu → D
  | .l ds => .list ds
  | .m kvs => .dict (kvs.map fun p => (keyD p.1, p.2))
def KTp (K : PySem.W.Frag) (a : Addr) (xs : List V) : Prop :=
  ∃ (o : Obj) (its : Array Value) (n : Nat), K.lookup a = some o ∧ o.cls = .type "tuple" ∧ o.data = .seq its n ∧ its.size ≤ sizeLine ∧ Vals xs its.toList
mutual
inductive Rp (K : PySem.W.Frag) (O : Addr → Prop) (H : Hp) : V → D → Prop
  | non : Rp K O H .non .none
  | bl (b : Bool) : Rp K O H (.bl b) (.bool b)
  | int (i : Int) : Rp K O H (.int i) (.int i)
  | str (x : Str) : Rp K O H (.str x) (.str x)
  | lst {a : Addr} {xs : List V} {ds : List D} : H a = some (.lst xs) → ¬ O a → RpAll K O H xs ds → Rp K O H (.ref a) (.list ds)
  | tup {a : Addr} {xs : List V} {ds : List D} : (Rd H a (.tup xs) ∧ ¬ O a) ∨ KTp K a xs → RpAll K O H xs ds → Rp K O H (.ref a) (.tuple ds)
  | dic {a : Addr} {kvs : List (L2.Key × V)} {ds : List D} : Rd H a (.dK kvs) → ¬ O a → RpAll K O H (kvs.map (·.2)) ds → Rp K O H (.ref a) (.dict ((kvs.map fun p => keyD p.1).zip ds))
  | exc {a dx C : Addr} {nm f : Str} {v : V} {d : D} : PySem.W.nsIn K mainGlobals nm = some (some (.ref C)) → H a = some (XO (.ref C) (some dx) a) → ¬ O a → H dx = some (.xd [(f, v)]) → ¬ O dx → Rp K O H v d → Rp K O H (.ref a) (excD nm f d)
inductive RpAll (K : PySem.W.Frag) (O : Addr → Prop) (H : Hp) : List V → List D → Prop
  | nil : RpAll K O H [] []
  | cons {v : V} {vs : List V} {d : D} {ds : List D} : Rp K O H v d → RpAll K O H vs ds → RpAll K O H (v :: vs) (d :: ds)
end
theorem rd_live {H : Hp} {a : Addr} {u : HO} (h : Rd H a u) : ∃ o, H a = some o := by
  rcases h with h | ⟨o, h⟩
  · exact ⟨_, h⟩
  · exact ⟨_, h⟩
theorem rd_tr {H H' : Hp} {a : Addr} {u : HO} (k : ∀ o, H a = some o → H' a = some o) (h : Rd H a u) : Rd H' a u := by
  rcases h with h | ⟨o, h⟩
  · exact .inl (k _ h)
  · exact .inr ⟨o, k _ h⟩
section
variable {K : PySem.W.Frag} {O O' : Addr → Prop} {H H' : Hp}
theorem or_tr {a : Addr} {u : HO} {P : Prop} (f : ∀ a o, H a = some o → ¬ O a → ¬ O' a) (k : ∀ a o, ¬ O a → H a = some o → H' a = some o) (h : (Rd H a u ∧ ¬ O a) ∨ P) : (Rd H' a u ∧ ¬ O' a) ∨ P := by
  rcases h with ⟨h, n⟩ | h
  · obtain ⟨o, e⟩ := rd_live h
    exact .inl ⟨rd_tr (fun o q => k a o n q) h, f a o e n⟩
  · exact .inr h
mutual
theorem Rp.tr (f : ∀ a o, H a = some o → ¬ O a → ¬ O' a) (k : ∀ a o, ¬ O a → H a = some o → H' a = some o) : ∀ {v : V} {d : D}, Rp K O H v d → Rp K O' H' v d
  | _, _, .non => .non
  | _, _, .bl b => .bl b
  | _, _, .int i => .int i
  | _, _, .str x => .str x
  | _, _, .lst h n r => .lst (k _ _ n h) (f _ _ h n) (RpAll.tr f k r)
  | _, _, .tup h r => .tup (or_tr f k h) (RpAll.tr f k r)
  | _, _, .dic h n r => .dic (rd_tr (fun o q => k _ o n q) h) (let ⟨o, e⟩ := rd_live h; f _ o e n) (RpAll.tr f k r)
  | _, _, .exc c h n h2 n2 r => .exc c (k _ _ n h) (f _ _ h n) (k _ _ n2 h2) (f _ _ h2 n2) (Rp.tr f k r)
theorem RpAll.tr (f : ∀ a o, H a = some o → ¬ O a → ¬ O' a) (k : ∀ a o, ¬ O a → H a = some o → H' a = some o) : ∀ {vs : List V} {ds : List D}, RpAll K O H vs ds → RpAll K O' H' vs ds
  | _, _, .nil => .nil
  | _, _, .cons r t => .cons (Rp.tr f k r) (RpAll.tr f k t)
end
theorem Rp.anti (h : ∀ a, O' a → O a) {v : V} {d : D} (r : Rp K O H v d) : Rp K O' H v d := r.tr (fun a _ _ n q => n (h a q)) fun _ _ _ e => e
theorem RpAll.anti (h : ∀ a, O' a → O a) {v : List V} {d : List D} (r : RpAll K O H v d) : RpAll K O' H v d := r.tr (fun a _ _ n q => n (h a q)) fun _ _ _ e => e
theorem RpAll.length : ∀ {vs : List V} {ds : List D}, RpAll K O H vs ds → vs.length = ds.length
  | _, _, .nil => rfl
  | _, _, .cons _ t => congrArg (· + 1) (RpAll.length t)
theorem RpAll.get : ∀ {vs : List V} {ds : List D} {i : Nat} {d : D}, RpAll K O H vs ds → ds[i]? = some d → ∃ v, vs[i]? = some v ∧ Rp K O H v d
  | _, _, _, _, .nil, e => by simp at e
  | _, _, 0, _, .cons r _, e => by simp at e; subst e; exact ⟨_, rfl, r⟩
  | _, _, i + 1, _, .cons _ t, e => by
    obtain ⟨v, h1, h2⟩ := RpAll.get (i := i) t (by simpa using e)
    exact ⟨v, by simpa using h1, h2⟩
theorem RpAll.get' : ∀ {vs : List V} {ds : List D} {i : Nat} {v : V}, RpAll K O H vs ds → vs[i]? = some v → ∃ d, ds[i]? = some d ∧ Rp K O H v d
  | _, _, _, _, .nil, e => by simp at e
  | _, _, 0, _, .cons r _, e => by simp at e; subst e; exact ⟨_, rfl, r⟩
  | _, _, i + 1, _, .cons _ t, e => by
    obtain ⟨v, h1, h2⟩ := RpAll.get' (i := i) t (by simpa using e)
    exact ⟨v, by simpa using h1, h2⟩
theorem RpAll.append : ∀ {vs us : List V} {ds es : List D}, RpAll K O H vs ds → RpAll K O H us es → RpAll K O H (vs ++ us) (ds ++ es)
  | _, _, _, _, .nil, s => s
  | _, _, _, _, .cons r t, s => .cons r (RpAll.append t s)
theorem RpAll.take : ∀ {vs : List V} {ds : List D} (n : Nat), RpAll K O H vs ds → RpAll K O H (vs.take n) (ds.take n)
  | _, _, 0, _ => .nil
  | _, _, _ + 1, .nil => .nil
  | _, _, n + 1, .cons r t => .cons r (RpAll.take n t)
theorem RpAll.drop : ∀ {vs : List V} {ds : List D} (n : Nat), RpAll K O H vs ds → RpAll K O H (vs.drop n) (ds.drop n)
  | _, _, 0, r => r
  | _, _, _ + 1, .nil => .nil
  | _, _, n + 1, .cons _ t => RpAll.drop n t
theorem RpAll.set {v : V} {d : D} (q : Rp K O H v d) : ∀ {vs : List V} {ds : List D} (n : Nat), RpAll K O H vs ds → RpAll K O H (vs.set n v) (ds.set n d)
  | _, _, _, .nil => .nil
  | _, _, 0, .cons _ t => .cons q t
  | _, _, n + 1, .cons r t => .cons r (RpAll.set q n t)
theorem RpAll.one {v : V} {d : D} (q : Rp K O H v d) : RpAll K O H [v] [d] := .cons q .nil
mutual
theorem Rp.dp : ∀ {v : V} {d : D}, Rp K O H v d → d.hasDict = false → Dp K H v d
  | _, _, .non, _ => .non
  | _, _, .bl b, _ => .bl b
  | _, _, .int i, _ => .int i
  | _, _, .str x, _ => .str x
  | _, _, .lst h _ r, s => .lst (.inl (.inl h)) (RpAll.dp r (by simpa [PyData.hasDict] using s))
  | _, _, .tup h r, s => .tup (h.imp (·.1) id) (RpAll.dp r (by simpa [PyData.hasDict] using s))
  | _, _, .dic .., s => by simp [PyData.hasDict] at s
  | _, _, .exc .., s => by simp [excD, PyData.hasDict] at s
theorem RpAll.dp : ∀ {vs : List V} {ds : List D}, RpAll K O H vs ds → PyData.hasDictAll ds = false → DpAll K H vs ds
  | _, _, .nil, _ => .nil
  | _, _, .cons r t, s => .cons (Rp.dp r (by simp [PyData.hasDictAll] at s; exact s.1)) (RpAll.dp t (by simp [PyData.hasDictAll] at s; exact s.2))
end
end

/-! ### what may change, and what is kept -/
structure Ext (W : Addr → Prop) (H H' : Hp) : Prop where
  same : ∀ a o, H a = some o → ¬ W a → H' a = some o
  live : ∀ a, H a ≠ none → H' a ≠ none
def MuAt (K : PySem.W.Frag) (O : Addr → Prop) (H : Hp) (a : Addr) : Mu → Prop
  | .l ds => ∃ xs, H a = some (.lst xs) ∧ RpAll K O H xs ds
  | .m kvs => ∃ es : List (L2.Key × V), H a = some (.dK es) ∧ es.map (·.1) = kvs.map (·.1) ∧ RpAll K O H (es.map (·.2)) (kvs.map (·.2))
inductive Sl where
  | shr (d : D)
  | own (p : Bool) (m : Mu)
abbrev En := List (Option Sl)
structure Frm where
  O0 : Addr → Prop
  W0 : Addr → Prop
  H0 : Hp
  vs : List V
def Wr (env : En) (σ : L2.St) (a : Addr) : Prop := ∃ (i : Nat) (p : Bool) (m : Mu), env[i]? = some (some (Sl.own p m)) ∧ σ[i]? = some (some (V.ref a))
def Ow (F : Frm) (T : Addr → Prop) (env : En) (σ : L2.St) (a : Addr) : Prop := F.O0 a ∨ T a ∨ Wr env σ a
structure StOk (K : PySem.W.Frag) (F : Frm) (T : Addr → Prop) (H : Hp) (env : En) (σ : L2.St) : Prop where
  len : env.length = σ.length
  shr : ∀ (i : Nat) (d : D), env[i]? = some (some (Sl.shr d)) → ∃ v, σ[i]? = some (some v) ∧ Rp K (Ow F T env σ) H v d
  own : ∀ (i : Nat) (p : Bool) (m : Mu), env[i]? = some (some (Sl.own p m)) → ∃ a, σ[i]? = some (some (V.ref a)) ∧ MuAt K (Ow F T env σ) H a m ∧ (if p = true then F.W0 a ∧ F.vs[i]? = some (V.ref a) else F.H0 a = none)
  dis : ∀ (i j : Nat) (p q : Bool) (m n : Mu) (a : Addr), env[i]? = some (some (Sl.own p m)) → env[j]? = some (some (Sl.own q n)) → σ[i]? = some (some (V.ref a)) → σ[j]? = some (some (V.ref a)) → i = j
  ext : Ext F.W0 F.H0 H
  dom : ∀ a, F.O0 a → F.H0 a ≠ none
  sub : ∀ a, F.W0 a → F.O0 a
  tdm : ∀ a, T a → H a ≠ none
  tno : ∀ a, T a → ¬ Wr env σ a
/-- one step of an expression -/
structure Stp (env : En) (σ : L2.St) (H : Hp) (env' : En) (H' : Hp) : Prop where
  ext : Ext (Wr env σ) H H'
  wr : ∀ a, Wr env' σ a → Wr env σ a
/-- one step of a statement -/
structure Stq (env : En) (σ : L2.St) (H : Hp) (env' : En) (σ' : L2.St) (H' : Hp) : Prop where
  ext : Ext (Wr env σ) H H'
  wr : ∀ a, Wr env' σ' a → Wr env σ a ∨ H a = none
section
variable {K : PySem.W.Frag} {F : Frm} {T T' : Addr → Prop} {H H1 H2 H' : Hp} {env env1 env2 env' : En} {σ σ1 σ2 σ' : L2.St}
theorem Ext.refl {W : Addr → Prop} : Ext W H H := ⟨fun _ _ e _ => e, fun _ e => e⟩
theorem Ext.new {W : Addr → Prop} {p : Addr} {o : HO} (n : H p = none) : Ext W H (upd H p o) :=
  ⟨fun a u e _ => by rw [upd_ne (ne_of_none e n)]; exact e, fun a e => by
    by_cases h : a = p
    · subst h; rw [upd_same]; simp
    · rw [upd_ne h]; exact e⟩
theorem Ext.trans {W W' : Addr → Prop} (a : Ext W H H1) (b : Ext W' H1 H2) (h : ∀ x, W' x → W x ∨ H x = none) : Ext W H H2 :=
  ⟨fun x o e n => b.same x o (a.same x o e n) fun q => (h x q).elim n fun q => (by rw [e] at q; cases q), fun x e => b.live x (a.live x e)⟩
theorem Ext.mono {W W' : Addr → Prop} (a : Ext W H H1) (h : ∀ x, W x → W' x) : Ext W' H H1 := ⟨fun x o e n => a.same x o e fun q => n (h x q), a.live⟩
theorem Stp.refl : Stp env σ H env H := ⟨Ext.refl, fun _ h => h⟩
theorem Stp.trans (a : Stp env σ H env1 H1) (b : Stp env1 σ H1 env2 H2) : Stp env σ H env2 H2 :=
  ⟨a.ext.trans b.ext fun x q => .inl (a.wr x q), fun x q => a.wr x (b.wr x q)⟩
theorem Stp.q (a : Stp env σ H env1 H1) : Stq env σ H env1 σ H1 := ⟨a.ext, fun x q => .inl (a.wr x q)⟩
theorem Stq.refl : Stq env σ H env σ H := ⟨Ext.refl, fun _ h => .inl h⟩
theorem Stq.trans (a : Stq env σ H env1 σ1 H1) (b : Stq env1 σ1 H1 env2 σ2 H2) : Stq env σ H env2 σ2 H2 :=
  ⟨a.ext.trans b.ext a.wr, fun x q => by
    rcases b.wr x q with q | q
    · exact a.wr x q
    · refine .inr ?_
      cases e : H x with
      | none => rfl
      | some o => exact absurd q (a.ext.live x (by rw [e]; simp))⟩
theorem Stp.new {p : Addr} {o : HO} (n : H p = none) : Stp env σ H env (upd H p o) := ⟨Ext.new n, fun _ h => h⟩
theorem StOk.wlive (S : StOk K F T H env σ) {a : Addr} (h : Wr env σ a) : H a ≠ none := by
  obtain ⟨i, p, m, e, q⟩ := h
  obtain ⟨a', e1, mu, _⟩ := S.own i p m e
  rw [q] at e1; cases e1
  cases m with
  | l ds => obtain ⟨xs, h, _⟩ := mu; rw [h]; simp
  | m kvs => obtain ⟨xs, h, _⟩ := mu; rw [h]; simp
theorem StOk.olive (S : StOk K F T H env σ) {a : Addr} (h : Ow F T env σ a) : H a ≠ none := by
  rcases h with h | h | h
  · exact S.ext.live a (S.dom a h)
  · exact S.tdm a h
  · exact S.wlive h
theorem StOk.fresh (S : StOk K F T H env σ) {p : Addr} (n : H p = none) : ¬ Ow F T env σ p := fun h => S.olive h n
theorem StOk.fresh0 (S : StOk K F T H env σ) {p : Addr} (n : H p = none) : F.H0 p = none := by
  cases e : F.H0 p with
  | none => rfl
  | some o => exact absurd n (S.ext.live p (by rw [e]; simp))
theorem Rp.stq {v : V} {d : D} (r : Rp K (Ow F T env σ) H v d) (b : Stq env σ H env' σ' H') : Rp K (Ow F T env' σ') H' v d := r.tr
  (fun a o e n q => by
    rcases q with q | q | q
    · exact n (.inl q)
    · exact n (.inr (.inl q))
    · rcases b.wr a q with q | q
      · exact n (.inr (.inr q))
      · rw [e] at q; cases q)
  fun a o n e => b.ext.same a o e fun q => n (.inr (.inr q))
theorem RpAll.stq {v : List V} {d : List D} (r : RpAll K (Ow F T env σ) H v d) (b : Stq env σ H env' σ' H') : RpAll K (Ow F T env' σ') H' v d := r.tr
  (fun a o e n q => by
    rcases q with q | q | q
    · exact n (.inl q)
    · exact n (.inr (.inl q))
    · rcases b.wr a q with q | q
      · exact n (.inr (.inr q))
      · rw [e] at q; cases q)
  fun a o n e => b.ext.same a o e fun q => n (.inr (.inr q))
theorem Rp.stp {v : V} {d : D} (r : Rp K (Ow F T env σ) H v d) (b : Stp env σ H env' H') : Rp K (Ow F T env' σ) H' v d := r.stq b.q
theorem RpAll.stp {v : List V} {d : List D} (r : RpAll K (Ow F T env σ) H v d) (b : Stp env σ H env' H') : RpAll K (Ow F T env' σ) H' v d := r.stq b.q
theorem MuAt.tr {O O' : Addr → Prop} {a : Addr} {m : Mu} (f : ∀ a o, H a = some o → ¬ O a → ¬ O' a) (k : ∀ a o, ¬ O a → H a = some o → H' a = some o) (ka : ∀ o, H a = some o → H' a = some o) (h : MuAt K O H a m) : MuAt K O' H' a m := by
  cases m with
  | l ds => obtain ⟨xs, e, r⟩ := h; exact ⟨xs, ka _ e, r.tr f k⟩
  | m kvs => obtain ⟨xs, e, g, r⟩ := h; exact ⟨xs, ka _ e, g, r.tr f k⟩
/-- less to be kept apart from -/
theorem StOk.anti (S : StOk K F T H env σ) (h : ∀ a, T' a → T a) : StOk K F T' H env σ := by
  have g : ∀ a, Ow F T' env σ a → Ow F T env σ a := fun a q => q.imp id (.imp (h a) id)
  exact ⟨S.len, fun i d e => let ⟨v, e1, r⟩ := S.shr i d e; ⟨v, e1, r.anti g⟩,
    fun i p m e => let ⟨a, e1, r, c⟩ := S.own i p m e; ⟨a, e1, r.tr (fun a _ _ n q => n (g a q)) (fun _ _ _ e => e) (fun _ e => e), c⟩, S.dis, S.ext, S.dom, S.sub, fun a q => S.tdm a (h a q), fun a q => S.tno a (h a q)⟩
/-- a new object is laid; it may be kept apart -/
theorem StOk.new (S : StOk K F T H env σ) {p : Addr} {o : HO} (n : H p = none) : StOk K F (fun a => T a ∨ a = p) (upd H p o) env σ := by
  have ne : ∀ a u, H a = some u → a ≠ p := fun a u e => ne_of_none e n
  have f : ∀ a u, H a = some u → ¬ Ow F T env σ a → ¬ Ow F (fun a => T a ∨ a = p) env σ a := fun a u e k q => by
    rcases q with q | (q | q) | q
    · exact k (.inl q)
    · exact k (.inr (.inl q))
    · exact ne a u e q
    · exact k (.inr (.inr q))
  have k : ∀ a u, H a = some u → upd H p o a = some u := fun a u e => by rw [upd_ne (ne a u e)]; exact e
  exact ⟨S.len, fun i d e => let ⟨v, e1, r⟩ := S.shr i d e; ⟨v, e1, r.tr f fun a u _ e => k a u e⟩,
    fun i p m e => let ⟨a, e1, r, c⟩ := S.own i p m e; ⟨a, e1, r.tr f (fun a u _ e => k a u e) (k a), c⟩, S.dis,
    S.ext.trans (Ext.new (W := fun _ => False) n) (fun _ q => q.elim), S.dom, S.sub, fun a q => (by
      rcases q with q | rfl
      · exact (Ext.new (W := fun _ => False) n).live a (S.tdm a q)
      · rw [upd_same]; simp), fun a q z => q.elim (fun q => S.tno a q z) fun q => by subst q; exact S.wlive z n⟩
theorem RpAll.new {p : Addr} {o : HO} (n : H p = none) {vs : List V} {ds : List D} (r : RpAll K (Ow F T env σ) H vs ds) : RpAll K (Ow F (fun a => T a ∨ a = p) env σ) (upd H p o) vs ds := r.tr
  (fun a u e k q => by
    rcases q with q | (q | q) | q
    · exact k (.inl q)
    · exact k (.inr (.inl q))
    · exact ne_of_none e n q
    · exact k (.inr (.inr q)))
  fun a u _ e => by rw [upd_ne (ne_of_none e n)]; exact e
theorem Rp.new {p : Addr} {o : HO} (n : H p = none) {v : V} {d : D} (r : Rp K (Ow F T env σ) H v d) : Rp K (Ow F (fun a => T a ∨ a = p) env σ) (upd H p o) v d := by
  cases RpAll.new n (.one r) with
  | cons r _ => exact r
/-- a fresh object as data -/
theorem MuAt.rp {O : Addr → Prop} {p : Addr} {m : Mu} (h : MuAt K O H p m) (n : ¬ O p) : Rp K O H (.ref p) m.toD := by
  cases m with
  | l ds => obtain ⟨xs, e, r⟩ := h; exact .lst e n r
  | m kvs =>
    obtain ⟨es, e, g, r⟩ := h
    have q : (kvs.map fun p => (keyD p.1, p.2)) = (es.map fun p => keyD p.1).zip (kvs.map (·.2)) := by
      have g' : (es.map fun p => keyD p.1) = kvs.map fun p => keyD p.1 := by
        have := congrArg (List.map keyD) g
        simpa [List.map_map, Function.comp_def] using this
      rw [g']
      clear r g g' e
      induction kvs with
      | nil => rfl
      | cons x t ih => simp [ih]
    show Rp K O H (.ref p) (.dict _)
    rw [q]
    exact .dic (.inl e) n r
end
end GD

namespace GD
open PySem PySem.Spec PyProof.Rows L2
theorem MuAt.alive {K : PySem.W.Frag} {O : Addr → Prop} {H : Hp} {a : Addr} {m : Mu} (r : MuAt K O H a m) : H a ≠ none := by
  cases m with
  | l ds => obtain ⟨_, h, _⟩ := r; rw [h]; simp
  | m ds => obtain ⟨_, h, _⟩ := r; rw [h]; simp
/-! ### results and readings -/
inductive R where
  | val (d : D)
  | slot (i : Nat)
abbrev EvE := En → Option (R × En)
abbrev EvM := En → Option (Mu × En)
abbrev EvT := En → Option (Bool × En)
abbrev EvA := En → Option (List R × En)
def slOf (env : En) (i : Nat) : Option Sl := (env[i]?).bind id
theorem slOf_eq {env : En} {i : Nat} {s : Sl} : slOf env i = some s ↔ env[i]? = some (some s) := by
  unfold slOf
  cases env[i]? with
  | none => simp
  | some o => cases o <;> simp
def RvOk (K : PySem.W.Frag) (F : Frm) (T : Addr → Prop) (H : Hp) (env : En) (σ : L2.St) (v : V) : R → Prop
  | .val d => Rp K (Ow F T env σ) H v d
  | .slot i => σ[i]? = some (some v)
/-- what it reads as, its own top or not -/
def rs (env : En) : R → Option D
  | .val d => some d
  | .slot i => match slOf env i with
    | some (.own _ m) => some m.toD
    | some (.shr d) => some d
    | none => none
/-- what may be kept -/
def rk (env : En) : R → Option D
  | .val d => some d
  | .slot i => match slOf env i with
    | some (.shr d) => some d
    | _ => none
/-- read at the top, its parts apart -/
def ExcAt (K : PySem.W.Frag) (O : Addr → Prop) (H : Hp) (v : V) (es : List (D × D)) : Prop :=
  ∃ (a dx C : Addr) (nm f : Str) (x : V) (d : D), v = .ref a ∧ PySem.W.nsIn K mainGlobals nm = some (some (.ref C)) ∧ H a = some (XO (.ref C) (some dx) a) ∧ H dx = some (.xd [(f, x)]) ∧ Rp K O H x d ∧ es = [(.none, .str nm), (.str f, d)]
def Lv (K : PySem.W.Frag) (O : Addr → Prop) (H : Hp) (v : V) : D → Prop
  | .list ds => ∃ a xs, v = .ref a ∧ H a = some (.lst xs) ∧ RpAll K O H xs ds
  | .dict es => (∃ a kvs ds, v = .ref a ∧ Rd H a (.dK kvs) ∧ RpAll K O H (kvs.map (·.2)) ds ∧ es = (kvs.map fun p => keyD p.1).zip ds) ∨ ExcAt K O H v es
  | d => Rp K O H v d
theorem Rp.lv {K : PySem.W.Frag} {O : Addr → Prop} {H : Hp} {v : V} {d : D} (r : Rp K O H v d) : Lv K O H v d := by
  cases r with
  | non => exact .non
  | bl b => exact .bl b
  | int i => exact .int i
  | str x => exact .str x
  | lst h _ r => exact ⟨_, _, rfl, h, r⟩
  | tup h r => exact .tup h r
  | dic h n r => exact .inl ⟨_, _, _, rfl, h, r, rfl⟩
  | exc c h n h2 n2 r => exact .inr ⟨_, _, _, _, _, _, _, rfl, c, h, h2, r, rfl⟩
theorem dic_zip {kvs : List (L2.Key × D)} {es : List (L2.Key × V)} (g : es.map (·.1) = kvs.map (·.1)) : (kvs.map fun p => (keyD p.1, p.2)) = (es.map fun p => keyD p.1).zip (kvs.map (·.2)) := by
  have g' : (es.map fun p => keyD p.1) = kvs.map fun p => keyD p.1 := by
    have := congrArg (List.map keyD) g
    simpa [List.map_map, Function.comp_def] using this
  rw [g']
  clear g g'
  induction kvs with
  | nil => rfl
  | cons x t ih => simp [ih]
theorem MuAt.lv {K : PySem.W.Frag} {O : Addr → Prop} {H : Hp} {a : Addr} {m : Mu} (r : MuAt K O H a m) : Lv K O H (.ref a) m.toD := by
  cases m with
  | l ds => obtain ⟨xs, e, r⟩ := r; exact ⟨a, xs, rfl, e, r⟩
  | m kvs => obtain ⟨es, e, g, r⟩ := r; exact .inl ⟨a, es, _, rfl, .inl e, r, dic_zip g⟩
theorem Lv.dp {K : PySem.W.Frag} {O : Addr → Prop} {H : Hp} {v : V} {d : D} (r : Lv K O H v d) (h : d.hasDict = false) : Dp K H v d := by
  cases d with
  | list ds => obtain ⟨a, xs, rfl, s, r⟩ := r; exact .lst (.inl (.inl s)) (r.dp (by simpa [PyData.hasDict] using h))
  | dict es => simp [PyData.hasDict] at h
  | _ => exact Rp.dp r h
section
variable {K : PySem.W.Frag} {F : Frm} {T : Addr → Prop} {H H' : Hp} {env env' : En} {σ : L2.St} {v : V} {r : R} {d : D}
theorem RvOk.stp (h : RvOk K F T H env σ v r) (b : Stp env σ H env' H') : RvOk K F T H' env' σ v r := by
  cases r with
  | val d => exact Rp.stp h b
  | slot i => exact h
theorem rs_ok (S : StOk K F T H env σ) (h : RvOk K F T H env σ v r) (e : rs env r = some d) : Lv K (Ow F T env σ) H v d := by
  cases r with
  | val d' => simp only [rs, Option.some.injEq] at e; subst e; exact Rp.lv h
  | slot i =>
    unfold rs at e
    cases g : slOf env i with
    | none => simp [g] at e
    | some s =>
      have g' := slOf_eq.mp g
      cases s with
      | shr d' =>
        simp [g] at e; subst e
        obtain ⟨v', e1, r1⟩ := S.shr i _ g'
        rw [show σ[i]? = some (some v) from h] at e1; cases e1
        exact r1.lv
      | own p m =>
        simp [g] at e; subst e
        obtain ⟨a, e1, r1, _⟩ := S.own i _ _ g'
        rw [show σ[i]? = some (some v) from h] at e1; cases e1
        exact r1.lv
theorem rk_ok (S : StOk K F T H env σ) (h : RvOk K F T H env σ v r) (e : rk env r = some d) : Rp K (Ow F T env σ) H v d := by
  cases r with
  | val d' => simp only [rk, Option.some.injEq] at e; subst e; exact h
  | slot i =>
    unfold rk at e
    cases g : slOf env i with
    | none => simp [g] at e
    | some s =>
      have g' := slOf_eq.mp g
      cases s with
      | shr d' =>
        simp [g] at e; subst e
        obtain ⟨v', e1, r1⟩ := S.shr i _ g'
        rw [show σ[i]? = some (some v) from h] at e1; cases e1
        exact r1
      | own p m => simp [g] at e
/-- new things are laid -/
theorem StOk.lay (S : StOk K F T H env σ) (x : Ext (fun _ => False) H H') : StOk K F T H' env σ := by
  have k : ∀ a o, H a = some o → H' a = some o := fun a o e => x.same a o e id
  exact ⟨S.len, fun i d e => let ⟨v, e1, r⟩ := S.shr i d e; ⟨v, e1, r.tr (fun _ _ _ n => n) fun a o _ e => k a o e⟩,
    fun i p m e => let ⟨a, e1, r, c⟩ := S.own i p m e; ⟨a, e1, r.tr (fun _ _ _ n => n) (fun a o _ e => k a o e) (k a), c⟩, S.dis, S.ext.trans x (fun _ q => q.elim), S.dom, S.sub, fun a q => x.live a (S.tdm a q), S.tno⟩
theorem StOk.lay1 (S : StOk K F T H env σ) {p : Addr} (n : H p = none) (x : Ext (fun _ => False) H H') (l : H' p ≠ none) : StOk K F (fun a => T a ∨ a = p) H' env σ := by
  have k : ∀ a o, H a = some o → H' a = some o := fun a o e => x.same a o e id
  have f : ∀ a u, H a = some u → ¬ Ow F T env σ a → ¬ Ow F (fun a => T a ∨ a = p) env σ a := fun a u e k q => by
    rcases q with q | (q | q) | q
    · exact k (.inl q)
    · exact k (.inr (.inl q))
    · exact ne_of_none e n q
    · exact k (.inr (.inr q))
  exact ⟨S.len, fun i d e => let ⟨v, e1, r⟩ := S.shr i d e; ⟨v, e1, r.tr f fun a u _ e => k a u e⟩,
    fun i p m e => let ⟨a, e1, r, c⟩ := S.own i p m e; ⟨a, e1, r.tr f (fun a u _ e => k a u e) (k a), c⟩, S.dis,
    S.ext.trans x (fun _ q => q.elim), S.dom, S.sub, fun a q => (by
      rcases q with q | rfl
      · exact x.live a (S.tdm a q)
      · exact l), fun a q z => q.elim (fun q => S.tno a q z) fun q => by subst q; exact S.wlive z n⟩
theorem Stp.lay (x : Ext (fun _ => False) H H') : Stp env σ H env H' := ⟨x.mono fun _ q => q.elim, fun _ h => h⟩
theorem owp {p : Addr} (n : H p = none) {vs : List V} {ds : List D} (x : Ext (fun _ => False) H H') (r : RpAll K (Ow F T env σ) H vs ds) : RpAll K (Ow F (fun a => T a ∨ a = p) env σ) H' vs ds := r.tr
  (fun a u e k q => by
    rcases q with q | (q | q) | q
    · exact k (.inl q)
    · exact k (.inr (.inl q))
    · exact ne_of_none e n q
    · exact k (.inr (.inr q)))
  fun a u _ e => x.same a u e id
end
/-- an expression whose value is data, or a name's own list -/
def IE (K : PySem.W.Frag) (t : TE) (f : EvE) : Prop := ∀ F T env σ H r env', StOk K F T H env σ → f env = some (r, env') → ∀ Q : VK,
  (∀ v H', StOk K F T H' env' σ → Stp env σ H env' H' → RvOk K F T H' env' σ v r → Q v H') → t σ H Q
/-- an expression that makes a new list or dict -/
def IM (K : PySem.W.Frag) (t : TE) (f : EvM) : Prop := ∀ F T env σ H m env', StOk K F T H env σ → f env = some (m, env') → ∀ Q : VK,
  (∀ p H', H p = none → StOk K F (fun a => T a ∨ a = p) H' env' σ → Stp env σ H env' H' → MuAt K (Ow F (fun a => T a ∨ a = p) env' σ) H' p m → Q (.ref p) H') → t σ H Q
def IT (K : PySem.W.Frag) (t : TT) (f : EvT) : Prop := ∀ F T env σ H b env', StOk K F T H env σ → f env = some (b, env') → ∀ Q : Bool → Hp → Prop,
  (∀ H', StOk K F T H' env' σ → Stp env σ H env' H' → Q b H') → t σ H Q
def RvAll (K : PySem.W.Frag) (F : Frm) (T : Addr → Prop) (H : Hp) (env : En) (σ : L2.St) : List V → List R → Prop
  | [], [] => True
  | v :: vs, r :: rs => RvOk K F T H env σ v r ∧ RvAll K F T H env σ vs rs
  | _, _ => False
def IA (K : PySem.W.Frag) (t : TA) (f : EvA) : Prop := ∀ F T env σ H rs env', StOk K F T H env σ → f env = some (rs, env') → ∀ Q : List V → Hp → Prop,
  (∀ vs H', StOk K F T H' env' σ → Stp env σ H env' H' → RvAll K F T H' env' σ vs rs → Q vs H') → t σ H Q
section
variable {K : PySem.W.Frag} {F : Frm} {T : Addr → Prop} {H H' : Hp} {env env' : En} {σ : L2.St}
theorem RvAll.stp (b : Stp env σ H env' H') : ∀ {vs : List V} {rs : List R}, RvAll K F T H env σ vs rs → RvAll K F T H' env' σ vs rs
  | [], [], _ => trivial
  | v :: vs, r :: rs, h => ⟨h.1.stp b, RvAll.stp b h.2⟩
  | [], _ :: _, h => h.elim
  | _ :: _, [], h => h.elim
def LvAll (K : PySem.W.Frag) (O : Addr → Prop) (H : Hp) : List V → List D → Prop
  | [], [] => True
  | v :: vs, r :: rs => Lv K O H v r ∧ LvAll K O H vs rs
  | _, _ => False
def rsA (env : En) : List R → Option (List D)
  | [] => some []
  | r :: l => (rs env r).bind fun d => (rsA env l).map fun ds => d :: ds
def rkA (env : En) : List R → Option (List D)
  | [] => some []
  | r :: l => (rk env r).bind fun d => (rkA env l).map fun ds => d :: ds
theorem rsA_ok (S : StOk K F T H env σ) : ∀ {vs : List V} {l : List R} {ds : List D}, RvAll K F T H env σ vs l → rsA env l = some ds → LvAll K (Ow F T env σ) H vs ds
  | [], [], ds, _, e => by simp only [rsA, Option.some.injEq] at e; subst e; trivial
  | v :: vs, r :: l, ds, h, e => by
    simp only [rsA, Option.bind_eq_some_iff, Option.map_eq_some_iff] at e
    obtain ⟨d, e1, ds', e2, rfl⟩ := e
    exact ⟨rs_ok S h.1 e1, rsA_ok S h.2 e2⟩
  | [], _ :: _, _, h, _ => h.elim
  | _ :: _, [], _, h, _ => h.elim
theorem rkA_ok (S : StOk K F T H env σ) : ∀ {vs : List V} {l : List R} {ds : List D}, RvAll K F T H env σ vs l → rkA env l = some ds → RpAll K (Ow F T env σ) H vs ds
  | [], [], ds, _, e => by simp only [rkA, Option.some.injEq] at e; subst e; exact .nil
  | v :: vs, r :: l, ds, h, e => by
    simp only [rkA, Option.bind_eq_some_iff, Option.map_eq_some_iff] at e
    obtain ⟨d, e1, ds', e2, rfl⟩ := e
    exact .cons (rk_ok S h.1 e1) (rkA_ok S h.2 e2)
  | [], _ :: _, _, h, _ => h.elim
  | _ :: _, [], _, h, _ => h.elim
end
/-! ### expressions -/
section
variable {K : PySem.W.Frag} {ta tb te : TE} {fa fb fe : EvE} {t u : TT} {ft fu : EvT} {tl : TA} {fl : EvA}
def eVar (i : Nat) : EvE := fun env => match slOf env i with
  | some (.shr d) => some (.val d, env)
  | some (.own _ _) => some (.slot i, env)
  | none => none
theorem ie_var {i : Nat} : IE K (tVar i) (eVar i) := by
  intro F T env σ H r env' S e Q q
  unfold eVar at e
  cases g : slOf env i with
  | none => simp [g] at e
  | some s =>
    have g' := slOf_eq.mp g
    cases s with
    | shr d =>
      simp [g] at e
      obtain ⟨rfl, rfl⟩ := e
      obtain ⟨v, e1, r1⟩ := S.shr i _ g'
      exact ⟨v, e1, q v H S Stp.refl r1⟩
    | own p m =>
      simp [g] at e
      obtain ⟨rfl, rfl⟩ := e
      obtain ⟨a, e1, r1, _⟩ := S.own i _ _ g'
      exact ⟨_, e1, q _ H S Stp.refl e1⟩
/-- a name whose own list is given away: it is read only from here on -/
def eGive (i : Nat) : EvE := fun env => match slOf env i with
  | some (.shr d) => some (.val d, env)
  | some (.own false m) => some (.val m.toD, env.set i (some (.shr m.toD)))
  | _ => none
theorem set_get {α : Type} {l : List α} {i j : Nat} {x y : α} (h : (l.set i x)[j]? = some y) : (i = j ∧ y = x) ∨ (i ≠ j ∧ l[j]? = some y) := by
  by_cases e : i = j
  · subst e
    refine .inl ⟨rfl, ?_⟩
    rw [List.getElem?_set] at h
    simp only [↓reduceIte] at h
    split at h
    · exact (Option.some.inj h).symm
    · cases h
  · rw [List.getElem?_set_ne e] at h
    exact .inr ⟨e, h⟩
theorem give_ok {F : Frm} {T : Addr → Prop} {env : En} {σ : L2.St} {H : Hp} {i : Nat} {m : Mu} (S : StOk K F T H env σ) (g' : env[i]? = some (some (Sl.own false m))) :
    ∃ a, σ[i]? = some (some (V.ref a)) ∧ StOk K F T H (env.set i (some (.shr m.toD))) σ ∧ Stp env σ H (env.set i (some (.shr m.toD))) H ∧ Rp K (Ow F T (env.set i (some (.shr m.toD))) σ) H (.ref a) m.toD := by
  obtain ⟨a, e1, mu, hp⟩ := S.own i _ _ g'
  have sub : ∀ b, Wr (env.set i (some (.shr m.toD))) σ b → Wr env σ b ∧ b ≠ a := by
    rintro b ⟨j, p, n, ej, sj⟩
    rcases set_get ej with ⟨rfl, h⟩ | ⟨hne, h⟩
    · cases h
    · refine ⟨⟨j, p, n, h, sj⟩, fun hb => ?_⟩
      subst hb
      exact hne (S.dis i j _ _ _ _ _ g' h e1 sj)
  have ow : ∀ b, Ow F T (env.set i (some (.shr m.toD))) σ b → Ow F T env σ b := fun b h => h.imp id (.imp id fun q => (sub b q).1)
  have hd : F.H0 a = none := by simpa using hp
  have na : ¬ Ow F T (env.set i (some (.shr m.toD))) σ a := by
    rintro (h | h | h)
    · exact S.dom a h hd
    · exact S.tno a h ⟨i, _, _, g', e1⟩
    · exact (sub a h).2 rfl
  have rp : Rp K (Ow F T (env.set i (some (.shr m.toD))) σ) H (.ref a) m.toD := (mu.tr (fun b _ _ n q => n (ow b q)) (fun _ _ _ e => e) (fun _ e => e)).rp na
  refine ⟨a, e1, ⟨?_, ?_, ?_, ?_, S.ext, S.dom, S.sub, S.tdm, fun b q z => S.tno b q (sub b z).1⟩, ⟨Ext.refl, fun b q => (sub b q).1⟩, rp⟩
  · rw [List.length_set]; exact S.len
  · intro j d h
    rcases set_get h with ⟨rfl, hh⟩ | ⟨_, h⟩
    · cases hh; exact ⟨_, e1, rp⟩
    · obtain ⟨v, e2, r⟩ := S.shr j d h; exact ⟨v, e2, r.anti ow⟩
  · intro j p n h
    rcases set_get h with ⟨rfl, hh⟩ | ⟨_, h⟩
    · cases hh
    · obtain ⟨b, e2, r, c⟩ := S.own j p n h
      exact ⟨b, e2, r.tr (fun b _ _ n q => n (ow b q)) (fun _ _ _ e => e) (fun _ e => e), c⟩
  · intro j k p q n o b h1 h2 s1 s2
    rcases set_get h1 with ⟨rfl, h⟩ | ⟨_, h1⟩
    · cases h
    · rcases set_get h2 with ⟨rfl, h⟩ | ⟨_, h2⟩
      · cases h
      · exact S.dis j k p q n o b h1 h2 s1 s2
theorem ie_give {i : Nat} : IE K (tVar i) (eGive i) := by
  intro F T env σ H r env' S e Q q
  unfold eGive at e
  cases g : slOf env i with
  | none => simp [g] at e
  | some s =>
    have g' := slOf_eq.mp g
    cases s with
    | shr d =>
      simp [g] at e
      obtain ⟨rfl, rfl⟩ := e
      obtain ⟨v, e1, r1⟩ := S.shr i _ g'
      exact ⟨v, e1, q v H S Stp.refl r1⟩
    | own p m =>
      cases p with
      | true => simp [g] at e
      | false =>
        simp [g] at e
        obtain ⟨rfl, rfl⟩ := e
        obtain ⟨a, e1, S', st, rp⟩ := give_ok S g'
        exact ⟨_, e1, q _ H S' st rp⟩
/-- constants -/
def eC (d : D) : EvE := fun env => some (.val d, env)
theorem ie_non : IE K (tC .non) (eC .none) := fun F T env σ H r env' S e Q q => by cases e; exact q _ H S Stp.refl .non
theorem ie_bl {b : Bool} : IE K (tC (.bl b)) (eC (.bool b)) := fun F T env σ H r env' S e Q q => by cases e; exact q _ H S Stp.refl (.bl b)
theorem ie_int {i : Int} : IE K (tC (.int i)) (eC (.int i)) := fun F T env σ H r env' S e Q q => by cases e; exact q _ H S Stp.refl (.int i)
theorem ie_str {x : Str} : IE K (tC (.str x)) (eC (.str x)) := fun F T env σ H r env' S e Q q => by cases e; exact q _ H S Stp.refl (.str x)
/-- an object of the top: a written tuple or list -/
theorem ie_K {v : V} {d : D} (h : ∀ O H, Rp K O H v d) : IE K (tC v) (eC d) := fun F T env σ H r env' S e Q q => by cases e; exact q _ H S Stp.refl (h _ _)
/-- a new list as data -/
def eM (f : EvM) : EvE := fun env => (f env).map fun p => (.val p.1.toD, p.2)
theorem ie_im {f : EvM} (h : IM K te f) : IE K te (eM f) := by
  intro F T env σ H r env' S e Q q
  simp only [eM, Option.map_eq_some_iff] at e
  obtain ⟨⟨m, e1⟩, hf, he⟩ := e
  cases he
  refine h F T env σ H m e1 S hf Q fun p H' np S' st mu => ?_
  have np' : ¬ Ow F T e1 σ p := by
    rintro (h | h | h)
    · exact S.fresh np (.inl h)
    · exact S.fresh np (.inr (.inl h))
    · exact S.fresh np (.inr (.inr (st.wr p h)))
  exact q _ H' (S'.anti fun a h => .inl h) st ((mu.tr (fun b _ _ n q => n (q.imp id (.imp .inl id))) (fun _ _ _ e => e) (fun _ e => e)).rp np')
/-! two-place operations -/
def OpD (K : PySem.W.Frag) (r : R2) (g : D → D → Option D) : Prop := ∀ (O : Addr → Prop) (H : Hp) x y d e z, (∀ a, O a → H a ≠ none) → Lv K O H x d → Lv K O H y e → g d e = some z → ∀ Q : VK,
  (∀ v H', Ext (fun _ => False) H H' → Rp K O H' v z → Q v H') → r x y H Q
def OpM (K : PySem.W.Frag) (r : R2) (g : D → D → Option Mu) : Prop := ∀ (O : Addr → Prop) (H : Hp) x y d e z, (∀ a, O a → H a ≠ none) → Lv K O H x d → Lv K O H y e → g d e = some z → ∀ Q : VK,
  (∀ p H', H p = none → Ext (fun _ => False) H H' → MuAt K (fun a => O a ∨ a = p) H' p z → Q (.ref p) H') → r x y H Q
def e2 (fa fb : EvE) : En → Option (D × D × En) := fun env => (fa env).bind fun p => (fb p.2).bind fun q => (rs q.2 p.1).bind fun d => (rs q.2 q.1).map fun e => (d, e, q.2)
theorem i2 (ha : IE K ta fa) (hb : IE K tb fb) {F : Frm} {T : Addr → Prop} {env env' : En} {σ : L2.St} {H : Hp} {d e : D} (S : StOk K F T H env σ) (h : e2 fa fb env = some (d, e, env')) {R : V → V → Hp → Prop}
    (k : ∀ x y H', StOk K F T H' env' σ → Stp env σ H env' H' → Lv K (Ow F T env' σ) H' x d → Lv K (Ow F T env' σ) H' y e → R x y H') : ta σ H fun x H1 => tb σ H1 fun y H2 => R x y H2 := by
  simp only [e2, Option.bind_eq_some_iff, Option.map_eq_some_iff] at h
  obtain ⟨⟨r1, e1⟩, h1, ⟨r2, e2⟩, h2, d', h3, e', h4, h5⟩ := h
  cases h5
  refine ha F T env σ H r1 e1 S h1 _ fun x H1 S1 s1 v1 => ?_
  refine hb F T e1 σ H1 r2 _ S1 h2 _ fun y H2 S2 s2 v2 => ?_
  exact k x y H2 S2 (s1.trans s2) (rs_ok S2 (v1.stp s2) h3) (rs_ok S2 v2 h4)
def eOp (g : D → D → Option D) (fa fb : EvE) : EvE := fun env => (e2 fa fb env).bind fun p => (g p.1 p.2.1).map fun z => (.val z, p.2.2)
def eOpM (g : D → D → Option Mu) (fa fb : EvE) : EvM := fun env => (e2 fa fb env).bind fun p => (g p.1 p.2.1).map fun z => (z, p.2.2)
theorem ie_op {r : R2} {g : D → D → Option D} (hr : OpD K r g) (ha : IE K ta fa) (hb : IE K tb fb) : IE K (tOp r ta tb) (eOp g fa fb) := by
  intro F T env σ H r env' S e Q q
  simp only [eOp, Option.bind_eq_some_iff, Option.map_eq_some_iff] at e
  obtain ⟨⟨d, e, e1⟩, h1, z, h2, h3⟩ := e
  cases h3
  refine i2 ha hb S h1 fun x y H' S' st l1 l2 => hr (Ow F T e1 σ) H' x y d e z (fun a h => S'.olive h) l1 l2 h2 Q fun v H2 x r => ?_
  exact q v H2 (S'.lay x) (st.trans (Stp.lay x)) r
theorem im_op {r : R2} {g : D → D → Option Mu} (hr : OpM K r g) (ha : IE K ta fa) (hb : IE K tb fb) : IM K (tOp r ta tb) (eOpM g fa fb) := by
  intro F T env σ H m env' S e Q q
  simp only [eOpM, Option.bind_eq_some_iff, Option.map_eq_some_iff] at e
  obtain ⟨⟨d, e, e1⟩, h1, z, h2, h3⟩ := e
  cases h3
  refine i2 ha hb S h1 fun x y H' S' st l1 l2 => hr (Ow F T e1 σ) H' x y d e m (fun a h => S'.olive h) l1 l2 h2 Q fun p H2 n x r => ?_
  have np : H p = none := by
    cases h : H p with
    | none => rfl
    | some o => exact absurd n (st.ext.live p (by rw [h]; simp))
  have l : H2 p ≠ none := by
    exact r.alive
  exact q p H2 np (S'.lay1 n x l) (st.trans (Stp.lay x)) (r.tr (fun a _ _ n q => n (by
    rcases q with q | (q | q) | q
    · exact .inl (.inl q)
    · exact .inl (.inr (.inl q))
    · exact .inr q
    · exact .inl (.inr (.inr q)))) (fun _ _ _ e => e) fun _ e => e)
/-! one-place -/
def UnD (K : PySem.W.Frag) (r : V → Hp → VK → Prop) (g : D → Option D) : Prop := ∀ (O : Addr → Prop) (H : Hp) x d z, (∀ a, O a → H a ≠ none) → Lv K O H x d → g d = some z → ∀ Q : VK, (∀ v H', Ext (fun _ => False) H H' → Rp K O H' v z → Q v H') → r x H Q
def e1 (fa : EvE) : En → Option (D × En) := fun env => (fa env).bind fun p => (rs p.2 p.1).map fun d => (d, p.2)
theorem i1 (ha : IE K ta fa) {F : Frm} {T : Addr → Prop} {env env' : En} {σ : L2.St} {H : Hp} {d : D} (S : StOk K F T H env σ) (h : e1 fa env = some (d, env')) {R : V → Hp → Prop}
    (k : ∀ x H', StOk K F T H' env' σ → Stp env σ H env' H' → Lv K (Ow F T env' σ) H' x d → R x H') : ta σ H fun x H1 => R x H1 := by
  simp only [e1, Option.bind_eq_some_iff, Option.map_eq_some_iff] at h
  obtain ⟨⟨r1, e1⟩, h1, d', h3, h5⟩ := h
  cases h5
  exact ha F T env σ H r1 e1 S h1 _ fun x H1 S1 s1 v1 => k x H1 S1 s1 (rs_ok S1 v1 h3)
def eUn (g : D → Option D) (fa : EvE) : EvE := fun env => (e1 fa env).bind fun p => (g p.1).map fun z => (.val z, p.2)
theorem ie_un {r : V → Hp → VK → Prop} {g : D → Option D} (hr : UnD K r g) (ha : IE K ta fa) : IE K (tUn r ta) (eUn g fa) := by
  intro F T env σ H r env' S e Q q
  simp only [eUn, Option.bind_eq_some_iff, Option.map_eq_some_iff] at e
  obtain ⟨⟨d, e1⟩, h1, z, h2, h3⟩ := e
  cases h3
  refine i1 ha S h1 fun x H' S' st l1 => hr (Ow F T e1 σ) H' x d z (fun a h => S'.olive h) l1 h2 Q fun v H2 x r => ?_
  exact q v H2 (S'.lay x) (st.trans (Stp.lay x)) r
/-! argument lists, displays, calls of built-ins -/
def aNil : EvA := fun env => some ([], env)
def aCons (fa : EvE) (fl : EvA) : EvA := fun env => (fa env).bind fun p => (fl p.2).map fun q => (p.1 :: q.1, q.2)
theorem ia_nil : IA K tNil aNil := fun F T env σ H r env' S e Q q => by cases e; exact q [] H S Stp.refl trivial
theorem ia_cons (ha : IE K ta fa) (hl : IA K tl fl) : IA K (tCons ta tl) (aCons fa fl) := by
  intro F T env σ H rs env' S e Q q
  simp only [aCons, Option.bind_eq_some_iff, Option.map_eq_some_iff] at e
  obtain ⟨⟨r1, e1⟩, h1, ⟨l, e2⟩, h2, h3⟩ := e
  cases h3
  refine ha F T env σ H r1 e1 S h1 _ fun x H1 S1 s1 v1 => ?_
  refine hl F T e1 σ H1 l _ S1 h2 _ fun vs H2 S2 s2 v2 => ?_
  exact q _ H2 S2 (s1.trans s2) ⟨v1.stp s2, v2⟩
def eA (fl : EvA) : En → Option (List D × En) := fun env => (fl env).bind fun p => (rsA p.2 p.1).map fun ds => (ds, p.2)
def eK (fl : EvA) : En → Option (List D × En) := fun env => (fl env).bind fun p => (rkA p.2 p.1).map fun ds => (ds, p.2)
def small (n : Nat) : Bool := decide (n ≤ 1000000)
theorem small_le {n : Nat} (h : small n = true) : n ≤ sizeLine := Nat.le_trans (of_decide_eq_true h) (by decide)
theorem small_lt {n : Nat} (h : small n = true) : n < sizeLine := Nat.lt_of_le_of_lt (of_decide_eq_true h) (by decide)
def eTup (fl : EvA) : EvE := fun env => (eK fl env).bind fun p => if small p.1.length = true then some (.val (.tuple p.1), p.2) else none
def eLst (fl : EvA) : EvM := fun env => (eK fl env).bind fun p => if small p.1.length = true then some (.l p.1, p.2) else none
theorem ie_tup (hl : IA K tl fl) : IE K (tTup tl) (eTup fl) := by
  intro F T env σ H r env' S e Q q
  simp only [eTup, eK, Option.bind_eq_some_iff, Option.map_eq_some_iff] at e
  obtain ⟨⟨ds, e1⟩, ⟨⟨l, e2⟩, h1, ds', h2, h3⟩, h4⟩ := e
  cases h3
  split at h4
  · rename_i hs
    cases h4
    refine hl F T env σ H l _ S h1 _ fun vs H1 S1 s1 v1 => ?_
    have ra := rkA_ok S1 v1 h2
    refine ⟨by rw [ra.length]; exact small_le hs, fun p np => ?_⟩
    have x : Ext (fun _ => False) H1 (upd H1 p (.tup vs)) := Ext.new np
    refine q _ _ (S1.lay x) (s1.trans (Stp.lay x)) (.tup (.inl ⟨.inl upd_same, S1.fresh np⟩) (ra.tr (fun _ _ _ n => n) fun a o _ e => x.same a o e id))
  · cases h4
theorem im_lst (hl : IA K tl fl) : IM K (tLst tl) (eLst fl) := by
  intro F T env σ H r env' S e Q q
  simp only [eLst, eK, Option.bind_eq_some_iff, Option.map_eq_some_iff] at e
  obtain ⟨⟨ds, e1⟩, ⟨⟨l, e2⟩, h1, ds', h2, h3⟩, h4⟩ := e
  cases h3
  split at h4
  · rename_i hs
    cases h4
    refine hl F T env σ H l _ S h1 _ fun vs H1 S1 s1 v1 => ?_
    have ra := rkA_ok S1 v1 h2
    refine ⟨by rw [ra.length]; exact small_le hs, fun p np => ?_⟩
    have x : Ext (fun _ => False) H1 (upd H1 p (.lst vs)) := Ext.new np
    have n0 : H p = none := by
      cases h : H p with
      | none => rfl
      | some o => exact absurd np (s1.ext.live p (by rw [h]; simp))
    exact q _ _ n0 (S1.lay1 np x (by rw [upd_same]; simp)) (s1.trans (Stp.lay x)) ⟨vs, upd_same, owp np x ra⟩
  · cases h4
def CaD (K : PySem.W.Frag) (r : List V → Hp → VK → Prop) (g : List D → Option D) : Prop := ∀ (O : Addr → Prop) (H : Hp) xs ds z, (∀ a, O a → H a ≠ none) → LvAll K O H xs ds → g ds = some z → ∀ Q : VK,
  (∀ v H', Ext (fun _ => False) H H' → Rp K O H' v z → Q v H') → r xs H Q
def CaM (K : PySem.W.Frag) (r : List V → Hp → VK → Prop) (g : List D → Option Mu) : Prop := ∀ (O : Addr → Prop) (H : Hp) xs ds z, (∀ a, O a → H a ≠ none) → LvAll K O H xs ds → g ds = some z → ∀ Q : VK,
  (∀ p H', H p = none → Ext (fun _ => False) H H' → MuAt K (fun a => O a ∨ a = p) H' p z → Q (.ref p) H') → r xs H Q
def eCa (g : List D → Option D) (fl : EvA) : EvE := fun env => (eA fl env).bind fun p => (g p.1).map fun z => (.val z, p.2)
def eCaM (g : List D → Option Mu) (fl : EvA) : EvM := fun env => (eA fl env).bind fun p => (g p.1).map fun z => (z, p.2)
theorem ie_cb {r : List V → Hp → VK → Prop} {g : List D → Option D} (hr : CaD K r g) (hl : IA K tl fl) : IE K (tCB r tl) (eCa g fl) := by
  intro F T env σ H r env' S e Q q
  simp only [eCa, eA, Option.bind_eq_some_iff, Option.map_eq_some_iff] at e
  obtain ⟨⟨ds, e1⟩, ⟨⟨l, e2⟩, h1, ds', h2, h3⟩, z, h4, h5⟩ := e
  cases h3; cases h5
  refine hl F T env σ H l _ S h1 _ fun vs H1 S1 s1 v1 => ?_
  refine hr (Ow F T _ σ) H1 vs ds z (fun a h => S1.olive h) (rsA_ok S1 v1 h2) h4 Q fun v H2 x r => ?_
  exact q v H2 (S1.lay x) (s1.trans (Stp.lay x)) r
theorem im_cb {r : List V → Hp → VK → Prop} {g : List D → Option Mu} (hr : CaM K r g) (hl : IA K tl fl) : IM K (tCB r tl) (eCaM g fl) := by
  intro F T env σ H m env' S e Q q
  simp only [eCaM, eA, Option.bind_eq_some_iff, Option.map_eq_some_iff] at e
  obtain ⟨⟨ds, e1⟩, ⟨⟨l, e2⟩, h1, ds', h2, h3⟩, z, h4, h5⟩ := e
  cases h3; cases h5
  refine hl F T env σ H l _ S h1 _ fun vs H1 S1 s1 v1 => ?_
  refine hr (Ow F T _ σ) H1 vs ds m (fun a h => S1.olive h) (rsA_ok S1 v1 h2) h4 Q fun p H2 n x r => ?_
  have np : H p = none := by
    cases h : H p with
    | none => rfl
    | some o => exact absurd n (s1.ext.live p (by rw [h]; simp))
  have l : H2 p ≠ none := by
    exact r.alive
  exact q p H2 np (S1.lay1 n x l) (s1.trans (Stp.lay x)) (r.tr (fun a _ _ n q => n (by
    rcases q with q | (q | q) | q
    · exact .inl (.inl q)
    · exact .inl (.inr (.inl q))
    · exact .inr q
    · exact .inl (.inr (.inr q)))) (fun _ _ _ e => e) fun _ e => e)
/-! tests -/
def tVal (fe : EvE) : EvT := fun env => (e1 fe env).bind fun p => match p.1 with
  | .bool b => some (b, p.2)
  | _ => none
theorem it_B (h : IE K te fe) : IT K (tB te) (tVal fe) := by
  intro F T env σ H b env' S e Q q
  simp only [tVal, Option.bind_eq_some_iff] at e
  obtain ⟨⟨d, e1⟩, h1, h2⟩ := e
  refine i1 h S h1 fun x H' S' st l => ?_
  cases d with
  | bool c =>
    simp only [Option.some.injEq, Prod.mk.injEq] at h2
    obtain ⟨rfl, rfl⟩ := h2
    cases (show Rp K _ H' x (.bool c) from l)
    exact ⟨c, rfl, q H' S' st⟩
  | _ => cases h2
theorem it_test (h : IE K te fe) : IT K (tTest te) (tVal fe) := it_B h
def tfAnd (ft fu : EvT) : EvT := fun env => (ft env).bind fun p => if p.1 = true then fu p.2 else some (false, p.2)
def tfOr (ft fu : EvT) : EvT := fun env => (ft env).bind fun p => if p.1 = true then some (true, p.2) else fu p.2
def tfNot (ft : EvT) : EvT := fun env => (ft env).map fun p => (!p.1, p.2)
theorem it_and (h : IT K t ft) (h' : IT K u fu) : IT K (tAnd t u) (tfAnd ft fu) := by
  intro F T env σ H b env' S e Q q
  simp only [tfAnd, Option.bind_eq_some_iff] at e
  obtain ⟨⟨c, e1⟩, h1, h2⟩ := e
  refine h F T env σ H c e1 S h1 _ fun H1 S1 s1 => ?_
  cases c with
  | true =>
    simp only [if_true] at h2 ⊢
    exact h' F T e1 σ H1 b env' S1 h2 Q fun H2 S2 s2 => q H2 S2 (s1.trans s2)
  | false =>
    simp only [Bool.false_eq_true, if_false, Option.some.injEq, Prod.mk.injEq] at h2 ⊢
    obtain ⟨rfl, rfl⟩ := h2
    exact q H1 S1 s1
theorem it_or (h : IT K t ft) (h' : IT K u fu) : IT K (tOr t u) (tfOr ft fu) := by
  intro F T env σ H b env' S e Q q
  simp only [tfOr, Option.bind_eq_some_iff] at e
  obtain ⟨⟨c, e1⟩, h1, h2⟩ := e
  refine h F T env σ H c e1 S h1 _ fun H1 S1 s1 => ?_
  cases c with
  | false =>
    simp only [Bool.false_eq_true, if_false] at h2 ⊢
    exact h' F T e1 σ H1 b env' S1 h2 Q fun H2 S2 s2 => q H2 S2 (s1.trans s2)
  | true =>
    simp only [if_true, Option.some.injEq, Prod.mk.injEq] at h2 ⊢
    obtain ⟨rfl, rfl⟩ := h2
    exact q H1 S1 s1
theorem it_not (h : IT K t ft) : IT K (tNot t) (tfNot ft) := by
  intro F T env σ H b env' S e Q q
  simp only [tfNot, Option.map_eq_some_iff] at e
  obtain ⟨⟨c, e1⟩, h1, h2⟩ := e
  cases h2
  exact h F T env σ H c e1 S h1 _ fun H1 S1 s1 => q H1 S1 s1
def tYesE : EvT := fun env => some (true, env)
theorem it_yes : IT K tYes tYesE := fun F T env σ H b env' S e Q q => by cases e; exact q H S Stp.refl
/-! values by tests -/
def eAnd (fa fb : EvE) : EvE := fun env => (e1 fa env).bind fun p => match p.1 with
  | .bool true => fb p.2
  | .bool false => some (.val (.bool false), p.2)
  | _ => none
def eOr (fa fb : EvE) : EvE := fun env => (e1 fa env).bind fun p => match p.1 with
  | .bool false => fb p.2
  | .bool true => some (.val (.bool true), p.2)
  | _ => none
def eNot (fa : EvE) : EvE := eUn (fun d => match d with | .bool b => some (.bool (!b)) | _ => none) fa
theorem ie_and (ha : IE K ta fa) (hb : IE K tb fb) : IE K (tAndV ta tb) (eAnd fa fb) := by
  intro F T env σ H r env' S e Q q
  simp only [eAnd, Option.bind_eq_some_iff] at e
  obtain ⟨⟨d, e1⟩, h1, h2⟩ := e
  refine i1 ha S h1 fun x H' S' st l => ?_
  cases d with
  | bool c =>
    cases (show Rp K _ H' x (.bool c) from l)
    refine ⟨c, rfl, ?_⟩
    cases c with
    | true => exact hb F T e1 σ H' r env' S' h2 Q fun v H2 S2 s2 r2 => q v H2 S2 (st.trans s2) r2
    | false => cases h2; exact q _ H' S' st (.bl false)
  | _ => cases h2
theorem ie_or (ha : IE K ta fa) (hb : IE K tb fb) : IE K (tOrV ta tb) (eOr fa fb) := by
  intro F T env σ H r env' S e Q q
  simp only [eOr, Option.bind_eq_some_iff] at e
  obtain ⟨⟨d, e1⟩, h1, h2⟩ := e
  refine i1 ha S h1 fun x H' S' st l => ?_
  cases d with
  | bool c =>
    cases (show Rp K _ H' x (.bool c) from l)
    refine ⟨c, rfl, ?_⟩
    cases c with
    | false => exact hb F T e1 σ H' r env' S' h2 Q fun v H2 S2 s2 r2 => q v H2 S2 (st.trans s2) r2
    | true => cases h2; exact q _ H' S' st (.bl true)
  | _ => cases h2
theorem ie_not (ha : IE K ta fa) : IE K (tNotV ta) (eNot fa) := by
  intro F T env σ H r env' S e Q q
  simp only [eNot, eUn, Option.bind_eq_some_iff, Option.map_eq_some_iff] at e
  obtain ⟨⟨d, e1⟩, h1, z, h2, h3⟩ := e
  refine i1 ha S h1 fun x H' S' st l => ?_
  cases d with
  | bool c =>
    cases (show Rp K _ H' x (.bool c) from l)
    cases h2; cases h3
    exact ⟨c, rfl, q _ H' S' st (.bl _)⟩
  | _ => cases h2
def eIf (ft : EvT) (fa fb : EvE) : EvE := fun env => (ft env).bind fun p => if p.1 = true then fa p.2 else fb p.2
theorem ie_if (h : IT K t ft) (ha : IE K ta fa) (hb : IE K tb fb) : IE K (tIf t ta tb) (eIf ft fa fb) := by
  intro F T env σ H r env' S e Q q
  simp only [eIf, Option.bind_eq_some_iff] at e
  obtain ⟨⟨c, e1⟩, h1, h2⟩ := e
  refine h F T env σ H c e1 S h1 _ fun H1 S1 s1 => ?_
  cases c with
  | true =>
    simp only [if_true] at h2 ⊢
    exact ha F T e1 σ H1 r env' S1 h2 Q fun v H2 S2 s2 r2 => q v H2 S2 (s1.trans s2) r2
  | false =>
    simp only [Bool.false_eq_true, if_false] at h2 ⊢
    exact hb F T e1 σ H1 r env' S1 h2 Q fun v H2 S2 s2 r2 => q v H2 S2 (s1.trans s2) r2
end
end GD

namespace GD
open PySem PySem.Spec PyProof.Rows L2
def T0 : Addr → Prop := fun _ => False
inductive Ret where
  | val (d : D)
  | new (m : Mu)
inductive Fl where
  | nx
  | bk
  | ct
  | rt (r : Ret)
abbrev EvS := En → Option (Fl × En)
def RetOk (K : PySem.W.Frag) (F : Frm) (H' : Hp) (v : V) (env' : En) (σ' : L2.St) : Ret → Prop
  | .val d => StOk K F T0 H' env' σ' ∧ Rp K (Ow F T0 env' σ') H' v d
  | .new m => ∃ p T', v = .ref p ∧ F.H0 p = none ∧ StOk K F T' H' env' σ' ∧ Ow F T' env' σ' p ∧ MuAt K (Ow F T' env' σ') H' p m
def SEnd (K : PySem.W.Frag) (F : Frm) (env : En) (σ : L2.St) (H : Hp) (env' : En) (Dn : Ends) : Fl → Prop
  | .nx => ∀ σ' H', StOk K F T0 H' env' σ' → Stq env σ H env' σ' H' → Dn.nx σ' H'
  | .bk => ∀ σ' H', StOk K F T0 H' env' σ' → Stq env σ H env' σ' H' → Dn.bk σ' H'
  | .ct => ∀ σ' H', StOk K F T0 H' env' σ' → Stq env σ H env' σ' H' → Dn.ct σ' H'
  | .rt r => ∀ v σ' H', RetOk K F H' v env' σ' r → Dn.rt v H'
def IS (K : PySem.W.Frag) (t : TS) (f : EvS) : Prop := ∀ F env σ H fl env', StOk K F T0 H env σ → f env = some (fl, env') → ∀ Dn : Ends, SEnd K F env σ H env' Dn fl → t Dn σ H
section
variable {K : PySem.W.Frag} {te : TE} {fe : EvE} {fm : EvM} {t u : TS} {f g : EvS} {c : TT} {fc : EvT}
theorem SEnd.pre {F : Frm} {env env1 env' : En} {σ σ1 : L2.St} {H H1 : Hp} {Dn : Ends} {fl : Fl} (h : SEnd K F env σ H env' Dn fl) (b : Stq env σ H env1 σ1 H1) : SEnd K F env1 σ1 H1 env' Dn fl := by
  cases fl with
  | nx => exact fun σ' H' S q => h σ' H' S (b.trans q)
  | bk => exact fun σ' H' S q => h σ' H' S (b.trans q)
  | ct => exact fun σ' H' S q => h σ' H' S (b.trans q)
  | rt r => exact h
def sNext : EvS := fun env => some (.nx, env)
theorem is_next : IS K tNext sNext := fun F env σ H fl env' S e Dn h => by cases e; exact h σ H S Stq.refl
def sSeq (f g : EvS) : EvS := fun env => (f env).bind fun p => match p.1 with
  | .nx => g p.2
  | .bk => some (.bk, p.2)
  | .ct => some (.ct, p.2)
  | .rt r => some (.rt r, p.2)
theorem is_seq (h1 : IS K t f) (h2 : IS K u g) : IS K (tSeq t u) (sSeq f g) := by
  intro F env σ H fl env' S e Dn h
  simp only [sSeq, Option.bind_eq_some_iff] at e
  obtain ⟨⟨fl1, e1⟩, a1, a2⟩ := e
  cases fl1 with
  | nx => exact h1 F env σ H .nx e1 S a1 _ fun σ' H' S' q => h2 F e1 σ' H' fl env' S' a2 Dn (h.pre q)
  | bk => cases a2; exact h1 F env σ H .bk e1 S a1 _ h
  | ct => cases a2; exact h1 F env σ H .ct e1 S a1 _ h
  | rt r => cases a2; exact h1 F env σ H (.rt r) e1 S a1 _ h
def sIf (fc : EvT) (f g : EvS) : EvS := fun env => (fc env).bind fun p => if p.1 = true then f p.2 else g p.2
theorem is_if (hc : IT K c fc) (h1 : IS K t f) (h2 : IS K u g) : IS K (tIfS c t u) (sIf fc f g) := by
  intro F env σ H fl env' S e Dn h
  simp only [sIf, Option.bind_eq_some_iff] at e
  obtain ⟨⟨b, e1⟩, a1, a2⟩ := e
  refine hc F T0 env σ H b e1 S a1 _ fun H1 S1 s1 => ?_
  cases b with
  | true =>
    simp only [if_true] at a2 ⊢
    exact h1 F e1 σ H1 fl env' S1 a2 Dn (h.pre s1.q)
  | false =>
    simp only [Bool.false_eq_true, if_false] at a2 ⊢
    exact h2 F e1 σ H1 fl env' S1 a2 Dn (h.pre s1.q)
def sBreak : EvS := fun env => some (.bk, env)
def sCont : EvS := fun env => some (.ct, env)
theorem is_break : IS K tBreak sBreak := fun F env σ H fl env' S e Dn h => by cases e; exact h σ H S Stq.refl
theorem is_cont : IS K tCont sCont := fun F env σ H fl env' S e Dn h => by cases e; exact h σ H S Stq.refl
def sDrop (fe : EvE) : EvS := fun env => (fe env).map fun p => (.nx, p.2)
theorem is_drop (h : IE K te fe) : IS K (tDrop te) (sDrop fe) := by
  intro F env σ H fl env' S e Dn k
  simp only [sDrop, Option.map_eq_some_iff] at e
  obtain ⟨⟨r, e1⟩, a1, a2⟩ := e
  cases a2
  exact h F T0 env σ H r e1 S a1 _ fun v H' S' st _ => k σ H' S' st.q
/-! stores -/
section
variable {F : Frm} {T : Addr → Prop} {H : Hp} {env : En} {σ : L2.St}
theorem wr_set {i : Nat} {s : Option Sl} {v : V} {b : Addr} (h : Wr (env.set i s) (σ.set i (some v)) b) : Wr env σ b ∨ (∃ p m, s = some (.own p m) ∧ v = .ref b) := by
  obtain ⟨j, p, m, ej, sj⟩ := h
  rcases set_get ej with ⟨rfl, hh⟩ | ⟨hne, h⟩
  · rcases set_get sj with ⟨_, h2⟩ | ⟨hne, _⟩
    · exact .inr ⟨p, m, hh.symm, (Option.some.inj h2).symm⟩
    · exact absurd rfl hne
  · rcases set_get sj with ⟨rfl, _⟩ | ⟨_, h2⟩
    · exact absurd rfl hne
    · exact .inl ⟨j, p, m, h, h2⟩
theorem StOk.setS (S : StOk K F T H env σ) {i : Nat} {v : V} {d : D} (r : Rp K (Ow F T env σ) H v d) : StOk K F T H (env.set i (some (.shr d))) (σ.set i (some v)) := by
  have sub : ∀ b, Wr (env.set i (some (.shr d))) (σ.set i (some v)) b → Wr env σ b := fun b h => (wr_set h).elim id fun ⟨p, m, e, _⟩ => by cases e
  have ow : ∀ b, Ow F T (env.set i (some (.shr d))) (σ.set i (some v)) b → Ow F T env σ b := fun b h => h.imp id (.imp id (sub b))
  have gs : ∀ j k (x y : Option V), i ≠ j → σ[j]? = some x → (σ.set i k)[j]? = some x := fun j k x y h e => by rw [List.getElem?_set_ne h]; exact e
  refine ⟨by simp only [List.length_set]; exact S.len, ?_, ?_, ?_, S.ext, S.dom, S.sub, S.tdm, fun b q z => S.tno b q (sub b z)⟩
  · intro j d' h
    rcases set_get h with ⟨rfl, hh⟩ | ⟨hne, h⟩
    · cases hh
      have hl : i < σ.length := by
        rw [← S.len]
        have := (List.getElem?_eq_some_iff.mp h).1
        simpa using this
      exact ⟨v, by rw [List.getElem?_set_self hl], r.anti ow⟩
    · obtain ⟨w, e2, r⟩ := S.shr j d' h
      exact ⟨w, by rw [List.getElem?_set_ne hne]; exact e2, r.anti ow⟩
  · intro j p n h
    rcases set_get h with ⟨rfl, hh⟩ | ⟨hne, h⟩
    · cases hh
    · obtain ⟨b, e2, r, c⟩ := S.own j p n h
      exact ⟨b, by rw [List.getElem?_set_ne hne]; exact e2, r.tr (fun b _ _ n q => n (ow b q)) (fun _ _ _ e => e) (fun _ e => e), c⟩
  · intro j k p q n o b h1 h2 s1 s2
    rcases set_get h1 with ⟨rfl, hh⟩ | ⟨n1, h1⟩
    · cases hh
    · rcases set_get h2 with ⟨rfl, hh⟩ | ⟨n2, h2⟩
      · cases hh
      · rw [List.getElem?_set_ne n1] at s1
        rw [List.getElem?_set_ne n2] at s2
        exact S.dis j k p q n o b h1 h2 s1 s2
theorem StOk.setS_q (S : StOk K F T H env σ) {i : Nat} {v : V} {d : D} : Stq env σ H (env.set i (some (.shr d))) (σ.set i (some v)) H :=
  ⟨Ext.refl, fun b h => (wr_set h).elim .inl fun ⟨p, m, e, _⟩ => by cases e⟩
theorem StOk.setM {p : Addr} (nT : ¬ T p) (S : StOk K F (fun a => T a ∨ a = p) H env σ) {i : Nat} {m : Mu} (np : F.H0 p = none) (r : MuAt K (Ow F (fun a => T a ∨ a = p) env σ) H p m) :
    StOk K F T H (env.set i (some (.own false m))) (σ.set i (some (.ref p))) := by
  have sub : ∀ b, Wr (env.set i (some (.own false m))) (σ.set i (some (.ref p))) b → Wr env σ b ∨ b = p := fun b h => (wr_set h).elim .inl fun ⟨p, m, e, e2⟩ => by cases e2; exact .inr rfl
  have ow : ∀ b, Ow F T (env.set i (some (.own false m))) (σ.set i (some (.ref p))) b → Ow F (fun a => T a ∨ a = p) env σ b := fun b h => by
    rcases h with h | h | h
    · exact .inl h
    · exact .inr (.inl (.inl h))
    · rcases sub b h with h | h
      · exact .inr (.inr h)
      · exact .inr (.inl (.inr h))
  have nw : ¬ Wr env σ p := S.tno p (.inr rfl)
  refine ⟨by simp only [List.length_set]; exact S.len, ?_, ?_, ?_, S.ext, S.dom, S.sub, fun a h => S.tdm a (.inl h), fun b q z => ?_⟩
  · intro j d' h
    rcases set_get h with ⟨rfl, hh⟩ | ⟨hne, h⟩
    · cases hh
    · obtain ⟨w, e2, r⟩ := S.shr j d' h
      exact ⟨w, by rw [List.getElem?_set_ne hne]; exact e2, r.anti ow⟩
  · intro j q n h
    rcases set_get h with ⟨rfl, hh⟩ | ⟨hne, h⟩
    · cases hh
      have hl : i < σ.length := by
        rw [← S.len]
        have := (List.getElem?_eq_some_iff.mp h).1
        simpa using this
      exact ⟨p, by rw [List.getElem?_set_self hl], r.tr (fun b _ _ n q => n (ow b q)) (fun _ _ _ e => e) (fun _ e => e), by simpa using np⟩
    · obtain ⟨b, e2, r, c⟩ := S.own j q n h
      exact ⟨b, by rw [List.getElem?_set_ne hne]; exact e2, r.tr (fun b _ _ n q => n (ow b q)) (fun _ _ _ e => e) (fun _ e => e), c⟩
  · intro j k q1 q2 n o b h1 h2 s1 s2
    rcases set_get h1 with ⟨rfl, hh1⟩ | ⟨n1, h1⟩
    · rcases set_get h2 with ⟨rfl, hh2⟩ | ⟨n2, h2⟩
      · rfl
      · rcases set_get s1 with ⟨_, e⟩ | ⟨x, _⟩
        · cases e
          rw [List.getElem?_set_ne n2] at s2
          exact absurd ⟨k, q2, o, h2, s2⟩ nw
        · exact absurd rfl x
    · rcases set_get h2 with ⟨rfl, hh2⟩ | ⟨n2, h2⟩
      · rcases set_get s2 with ⟨_, e⟩ | ⟨x, _⟩
        · cases e
          rw [List.getElem?_set_ne n1] at s1
          exact absurd ⟨j, q1, n, h1, s1⟩ nw
        · exact absurd rfl x
      · rw [List.getElem?_set_ne n1] at s1
        rw [List.getElem?_set_ne n2] at s2
        exact S.dis j k q1 q2 n o b h1 h2 s1 s2
  · rcases sub b z with z | z
    · exact S.tno b (.inl q) z
    · subst z
      exact nT q
end
def sSet (i : Nat) (fe : EvE) : EvS := fun env => (fe env).bind fun p => (rk p.2 p.1).map fun d => (.nx, p.2.set i (some (.shr d)))
theorem is_set {i : Nat} (h : IE K te fe) : IS K (tAsg te (gName i)) (sSet i fe) := by
  intro F env σ H fl env' S e Dn k
  simp only [sSet, Option.bind_eq_some_iff, Option.map_eq_some_iff] at e
  obtain ⟨⟨r, e1⟩, a1, d, a2, a3⟩ := e
  cases a3
  refine h F T0 env σ H r e1 S a1 _ fun v H' S' st rv => ?_
  exact k _ H' (S'.setS (rk_ok S' rv a2)) (st.q.trans S'.setS_q)
def sSetM (i : Nat) (fm : EvM) : EvS := fun env => (fm env).map fun p => (.nx, p.2.set i (some (.own false p.1)))
theorem is_setM {i : Nat} (h : IM K te fm) : IS K (tAsg te (gName i)) (sSetM i fm) := by
  intro F env σ H fl env' S e Dn k
  simp only [sSetM, Option.map_eq_some_iff] at e
  obtain ⟨⟨m, e1⟩, a1, a3⟩ := e
  cases a3
  refine h F T0 env σ H m e1 S a1 _ fun p H' np S' st mu => ?_
  refine k _ H' (StOk.setM id S' (S.fresh0 np) mu) ⟨st.ext, fun b hb => ?_⟩
  rcases wr_set hb with hb | ⟨_, _, e, e2⟩
  · exact .inl (st.wr b hb)
  · cases e2; exact .inr np
/-! ends -/
def sRet (fe : EvE) : EvS := fun env => (fe env).bind fun p => match p.1 with
  | .val d => some (.rt (.val d), p.2)
  | .slot i => match slOf p.2 i with
    | some (.shr d) => some (.rt (.val d), p.2)
    | some (.own false m) => some (.rt (.new m), p.2)
    | _ => none
theorem is_ret (h : IE K te fe) : IS K (tRet te) (sRet fe) := by
  intro F env σ H fl env' S e Dn k
  simp only [sRet, Option.bind_eq_some_iff] at e
  obtain ⟨⟨r, e1⟩, a1, a2⟩ := e
  refine h F T0 env σ H r e1 S a1 _ fun v H' S' st rv => ?_
  cases r with
  | val d => cases a2; exact k v σ H' ⟨S', rv⟩
  | slot i =>
    cases g : slOf e1 i with
    | none => simp [g] at a2
    | some s =>
      have g' := slOf_eq.mp g
      cases s with
      | shr d =>
        simp [g] at a2
        obtain ⟨rfl, rfl⟩ := a2
        obtain ⟨w, q1, q2⟩ := S'.shr i d g'
        rw [show σ[i]? = some (some v) from rv] at q1; cases q1
        exact k v σ H' ⟨S', q2⟩
      | own p m =>
        cases p with
        | true => simp [g] at a2
        | false =>
          simp [g] at a2
          obtain ⟨rfl, rfl⟩ := a2
          obtain ⟨a, q1, q2, q3⟩ := S'.own i false m g'
          rw [show σ[i]? = some (some v) from rv] at q1; cases q1
          exact k _ σ H' ⟨a, T0, rfl, by simpa using q3, S', .inr (.inr ⟨i, _, _, g', rv⟩), q2⟩
def sRetM (fm : EvM) : EvS := fun env => (fm env).map fun p => (.rt (.new p.1), p.2)
theorem is_retM (h : IM K te fm) : IS K (tRet te) (sRetM fm) := by
  intro F env σ H fl env' S e Dn k
  simp only [sRetM, Option.map_eq_some_iff] at e
  obtain ⟨⟨m, e1⟩, a1, a2⟩ := e
  cases a2
  exact h F T0 env σ H m e1 S a1 _ fun p H' np S' st mu => k _ σ H' ⟨p, _, rfl, S.fresh0 np, S', .inr (.inl (.inr rfl)), mu⟩
def sRetN : EvS := fun env => some (.rt (.val .none), env)
theorem is_retN : IS K tRetN sRetN := fun F env σ H fl env' S e Dn h => by cases e; exact h .non σ H ⟨S, .non⟩
/-! x op= e -/
def sAug (g : D → D → Option D) (i : Nat) (fe : EvE) : EvS := fun env => (fe env).bind fun p => (slOf env i).bind fun s => match s with
  | .shr d => (rs p.2 p.1).bind fun e => (g d e).map fun z => (.nx, p.2.set i (some (.shr z)))
  | _ => none
theorem is_aug {ti : TIp} {gg : D → D → Option D} {i : Nat} (hr : OpD K ti gg) (h : IE K te fe) : IS K (tAug i te ti) (sAug gg i fe) := by
  intro F env σ H fl env' S e Dn k
  simp only [sAug, Option.bind_eq_some_iff] at e
  obtain ⟨⟨r, e1⟩, a1, s, a2, a3⟩ := e
  cases s with
  | own p m => simp at a3
  | shr d =>
    simp only [Option.bind_eq_some_iff, Option.map_eq_some_iff] at a3
    obtain ⟨e', a3, z, a4, a5⟩ := a3
    cases a5
    obtain ⟨x, q1, q2⟩ := S.shr i d (slOf_eq.mp a2)
    refine ⟨x, q1, h F T0 env σ H r e1 S a1 _ fun y H' S' st rv => ?_⟩
    refine hr (Ow F T0 e1 σ) H' x y d e' z (fun a h => S'.olive h) (q2.stp st).lv (rs_ok S' rv a3) a4 _ fun v H2 x2 r2 => ?_
    have S2 := S'.lay x2
    exact k _ H2 (S2.setS r2) ((st.trans (Stp.lay x2)).q.trans S2.setS_q)
/-! what a name's own list holds changes -/
theorem own_put {F : Frm} {T : Addr → Prop} {H : Hp} {env : En} {σ : L2.St} {i : Nat} {p : Bool} {m m' : Mu} {a : Addr} {o : HO} (S : StOk K F T H env σ) (g : env[i]? = some (some (Sl.own p m))) (e : σ[i]? = some (some (V.ref a)))
    (r : MuAt K (Ow F T env σ) (upd H a o) a m') : StOk K F T (upd H a o) (env.set i (some (.own p m'))) σ ∧ Stp env σ H (env.set i (some (.own p m'))) (upd H a o) := by
  have wa : Wr env σ a := ⟨i, p, m, g, e⟩
  have hs : ∀ b, Wr (env.set i (some (.own p m'))) σ b ↔ Wr env σ b := fun b => by
    constructor
    · rintro ⟨j, q, n, ej, sj⟩
      rcases set_get ej with ⟨rfl, hh⟩ | ⟨_, h⟩
      · rw [e] at sj; cases sj; exact wa
      · exact ⟨j, q, n, h, sj⟩
    · rintro ⟨j, q, n, ej, sj⟩
      by_cases hj : i = j
      · subst hj
        have hl := (List.getElem?_eq_some_iff.mp g).1
        exact ⟨i, p, m', by rw [List.getElem?_set_self hl], sj⟩
      · exact ⟨j, q, n, by rw [List.getElem?_set_ne hj]; exact ej, sj⟩
  have ow : ∀ b, Ow F T (env.set i (some (.own p m'))) σ b ↔ Ow F T env σ b := fun b => by unfold Ow; rw [hs b]
  have ext : Ext (Wr env σ) H (upd H a o) := ⟨fun b u q n => by
      rw [upd_ne (fun z => n (by subst z; exact wa))]; exact q, fun b q => by
      by_cases z : b = a
      · subst z; rw [upd_same]; simp
      · rw [upd_ne z]; exact q⟩
  have f : ∀ b u, H b = some u → ¬ Ow F T env σ b → ¬ Ow F T (env.set i (some (.own p m'))) σ b := fun b u _ n q => n ((ow b).mp q)
  have kk : ∀ b u, ¬ Ow F T env σ b → H b = some u → upd H a o b = some u := fun b u n q => ext.same b u q fun z => n (.inr (.inr z))
  refine ⟨⟨by rw [List.length_set]; exact S.len, ?_, ?_, ?_, ?_, S.dom, S.sub, fun b q => ext.live b (S.tdm b q), fun b q z => S.tno b q ((hs b).mp z)⟩, ext, fun b q => (hs b).mp q⟩
  · intro j d h
    rcases set_get h with ⟨rfl, hh⟩ | ⟨_, h⟩
    · cases hh
    · obtain ⟨v, e2, r⟩ := S.shr j d h; exact ⟨v, e2, r.tr f kk⟩
  · intro j q n h
    rcases set_get h with ⟨rfl, hh⟩ | ⟨hne, h⟩
    · cases hh
      obtain ⟨b, e2, _, c⟩ := S.own i _ _ g
      rw [e] at e2; cases e2
      exact ⟨a, e, r.tr (fun b _ _ n q => n ((ow b).mp q)) (fun _ _ _ e => e) (fun _ e => e), c⟩
    · obtain ⟨b, e2, r, c⟩ := S.own j q n h
      have hb : b ≠ a := fun z => by subst z; exact hne (S.dis i j _ _ _ _ _ g h e e2)
      exact ⟨b, e2, r.tr f kk (fun u q => by rw [upd_ne hb]; exact q), c⟩
  · intro j k q1 q2 n n2 b h1 h2 s1 s2
    have gg : ∀ j q n, (env.set i (some (Sl.own p m')))[j]? = some (some (Sl.own q n)) → ∃ q n, env[j]? = some (some (Sl.own q n)) := fun j q n h => by
      rcases set_get h with ⟨rfl, hh⟩ | ⟨_, h⟩
      · exact ⟨_, _, g⟩
      · exact ⟨_, _, h⟩
    obtain ⟨_, _, h1⟩ := gg _ _ _ h1
    obtain ⟨_, _, h2⟩ := gg _ _ _ h2
    exact S.dis j k _ _ _ _ b h1 h2 s1 s2
  · refine ⟨fun b u q n => ?_, fun b q => ext.live b (S.ext.live b q)⟩
    obtain ⟨b', e2, _, c⟩ := S.own i _ _ g
    rw [e] at e2; cases e2
    have hb : b ≠ a := by
      rintro rfl
      cases p with
      | true => exact n (by simpa using c.1)
      | false => simp at c; rw [c] at q; cases q
    rw [upd_ne hb]
    exact S.ext.same b u q n
/-! methods that change a name's own list or dict -/
def MtD (K : PySem.W.Frag) (Ty : String) (r : V → List V → Hp → VK → Prop) (g : Mu → List D → Option (Mu × D)) : Prop := ∀ (O : Addr → Prop) (H : Hp) a m vs ds m' z, O a → MuAt K O H a m → RpAll K O H vs ds → g m ds = some (m', z) →
  ∀ Q : VK, (∀ v o, MuAt K O (upd H a o) a m' → Rp K O (upd H a o) v z → Q v (upd H a o)) → r (.ref a) vs H Q
def tyM (Ty : String) : Mu → Bool
  | .l _ => Ty == "list"
  | .m _ => Ty == "dict"
theorem tyM_ok {O : Addr → Prop} {H : Hp} {a : Addr} {m : Mu} {Ty : String} (h : tyM Ty m = true) (r : MuAt K O H a m) : tyV K Ty (.ref a) H := by
  cases m with
  | l ds => obtain ⟨xs, e, _⟩ := r; exact .inl ⟨by simpa [tyM] using h, xs, .inl (.inl e)⟩
  | m kvs => obtain ⟨es, e, _⟩ := r; exact .inr (.inr (.inl ⟨by simpa [tyM] using h, .inl ⟨es, e⟩⟩))
def ownOf (env : En) (i : Nat) : Option (Bool × Mu) := match slOf env i with
  | some (.own b m) => some (b, m)
  | _ => none
theorem ownOf_eq {env : En} {i : Nat} {b : Bool} {m : Mu} : ownOf env i = some (b, m) → env[i]? = some (some (Sl.own b m)) := by
  unfold ownOf
  intro h
  cases g : slOf env i with
  | none => simp [g] at h
  | some s =>
    cases s with
    | shr d => simp [g] at h
    | own p n =>
      simp [g] at h
      obtain ⟨rfl, rfl⟩ := h
      exact slOf_eq.mp g
def eMt (Ty : String) (g : Mu → List D → Option (Mu × D)) (i : Nat) (fl : EvA) : EvE := fun env => (ownOf env i).bind fun o => if tyM Ty o.2 = true then (eK fl env).bind fun p => (ownOf p.2 i).bind fun q => (g q.2 p.1).map fun z => (.val z.2, p.2.set i (some (.own q.1 z.1))) else none
theorem ie_mt {r : V → List V → Hp → VK → Prop} {g : Mu → List D → Option (Mu × D)} {Ty : String} {i : Nat} {tl : TA} {fl : EvA} (hr : MtD K Ty r g) (hl : IA K tl fl) : IE K (tBM K Ty r (tVar i) tl) (eMt Ty g i fl) := by
  intro F T env σ H r env' S e Q q
  simp only [eMt, Option.bind_eq_some_iff] at e
  obtain ⟨⟨b, m⟩, h1, h2⟩ := e
  split at h2
  · rename_i ht
    simp only [eK, Option.bind_eq_some_iff, Option.map_eq_some_iff] at h2
    obtain ⟨⟨ds, e1⟩, ⟨⟨l, e2⟩, h3, ds', h4, h5⟩, ⟨b2, m2⟩, h6, ⟨m3, z⟩, h7, h8⟩ := h2
    cases h5; cases h8
    have g1 := ownOf_eq h1
    obtain ⟨a, q1, q2, _⟩ := S.own i b m g1
    refine ⟨_, q1, tyM_ok ht q2, hl F T env σ H l _ S h3 _ fun vs H1 S1 st rv => ?_⟩
    have g2 := ownOf_eq h6
    obtain ⟨a', p1, p2, _⟩ := S1.own i b2 m2 g2
    rw [q1] at p1; cases p1
    refine hr (Ow F T _ σ) H1 a m2 vs ds m3 z (.inr (.inr ⟨i, _, _, g2, q1⟩)) p2 (rkA_ok S1 rv h4) h7 Q fun v o mu rz => ?_
    obtain ⟨S2, st2⟩ := own_put S1 g2 q1 mu
    exact q v _ S2 (st.trans st2) (rz.anti fun b hb => hb.imp id (.imp id (st2.wr b)))
  · cases h2
theorem ie_mt0 {r : V → List V → Hp → VK → Prop} {g : Mu → List D → Option (Mu × D)} {Ty : String} {i : Nat} (hr : MtD K Ty r g) : IE K (tBM0 K Ty r (tVar i)) (eMt Ty g i aNil) := by
  intro F T env σ H r env' S e Q q
  obtain ⟨v, hv, h1, h2⟩ := ie_mt hr (tl := tNil) ia_nil F T env σ H r env' S e Q q
  exact ⟨v, hv, h1, h2⟩
/-- xs[k] = e, d[k] = e of a name's own -/
def StD (K : PySem.W.Frag) (ts : TSet) (g : Mu → D → D → Option Mu) : Prop := ∀ (O : Addr → Prop) (H : Hp) a m i d j e m', O a → MuAt K O H a m → Rp K O H i d → Rp K O H j e → g m d e = some m' →
  ∀ Q : Hp → Prop, (∀ o, MuAt K O (upd H a o) a m' → Q (upd H a o)) → ts (.ref a) i j H Q
def sPut (g : Mu → D → D → Option Mu) (i : Nat) (fk fe : EvE) : EvS := fun env => (fe env).bind fun p => (fk p.2).bind fun q => (rk q.2 p.1).bind fun d => (rk q.2 q.1).bind fun k => (ownOf p.2 i).bind fun o => (ownOf q.2 i).bind fun o => (g o.2 k d).map fun m => (.nx, q.2.set i (some (.own o.1 m)))
theorem is_put {ts : TSet} {gg : Mu → D → D → Option Mu} {i : Nat} {tk : TE} {fk : EvE} (hr : StD K ts gg) (hk : IE K tk fk) (he : IE K te fe) : IS K (tAsg te (gSub (tVar i) tk ts)) (sPut gg i fk fe) := by
  intro F env σ H fl env' S e Dn k
  simp only [sPut, Option.bind_eq_some_iff, Option.map_eq_some_iff] at e
  obtain ⟨⟨r, e1⟩, h1, ⟨r2, e2⟩, h2, d, h3, kk, h4, ⟨b0, m0⟩, h5, ⟨b, m⟩, h6, m', h7, h8⟩ := e
  cases h8
  refine he F T0 env σ H r e1 S h1 _ fun v H1 S1 s1 rv => ?_
  obtain ⟨a, q1, _, _⟩ := S1.own i b0 m0 (ownOf_eq h5)
  refine ⟨_, q1, hk F T0 e1 σ H1 r2 e2 S1 h2 _ fun w H2 S2 s2 rw2 => ?_⟩
  have g2 := ownOf_eq h6
  obtain ⟨a', p1, p2, _⟩ := S2.own i b m g2
  rw [q1] at p1; cases p1
  refine hr (Ow F T0 e2 σ) H2 a m w kk v d m' (.inr (.inr ⟨i, _, _, g2, q1⟩)) p2 (rk_ok S2 rw2 h4) (rk_ok S2 (rv.stp s2) h3) h7 _ fun o mu => ?_
  obtain ⟨S3, st3⟩ := own_put S2 g2 q1 mu
  exact k σ _ S3 ((s1.trans s2).trans st3).q
/-! targets -/
def IG (K : PySem.W.Frag) (js : List Nat) (g : TG) (f : D → En → Option En) : Prop := ∀ F T env σ H v d env', StOk K F T H env σ → Rp K (Ow F T env σ) H v d → f d env = some env' → ∀ Q : L2.St → Hp → Prop,
  (∀ σ', StOk K F T H env' σ' → Stq env σ H env' σ' H → σ'.length = σ.length → (∀ k, k ∉ js → σ'[k]? = σ[k]?) → (∀ k, k ∉ js → env'[k]? = env[k]?) → Q σ' H) → g v σ H Q
def gN (i : Nat) : D → En → Option En := fun d env => some (env.set i (some (.shr d)))
theorem ig_name {i : Nat} : IG K [i] (gName i) (gN i) := fun F T env σ H v d env' S r e Q q => by
  cases e
  exact q _ (S.setS r) S.setS_q (by simp) (fun k hk => by rw [List.getElem?_set_ne (fun z => hk (by simp [z]))]) (fun k hk => by rw [List.getElem?_set_ne (fun z => hk (by simp [z]))])
def IGs (K : PySem.W.Frag) (js : List Nat) (g : TGs) (f : List D → En → Option En) : Prop := ∀ F T env σ H v d env', StOk K F T H env σ → RpAll K (Ow F T env σ) H v d → f d env = some env' → ∀ Q : L2.St → Hp → Prop,
  (∀ σ', StOk K F T H env' σ' → Stq env σ H env' σ' H → σ'.length = σ.length → (∀ k, k ∉ js → σ'[k]? = σ[k]?) → (∀ k, k ∉ js → env'[k]? = env[k]?) → Q σ' H) → g v σ H Q
def gsNil : List D → En → Option En
  | [], env => some env
  | _, _ => none
def gsCons (f : D → En → Option En) (g : List D → En → Option En) : List D → En → Option En
  | d :: ds, env => (f d env).bind fun e => g ds e
  | [], _ => none
theorem igs_nil : IGs K [] gNil gsNil := fun F T env σ H v d env' S r e Q q => by
  cases r with
  | nil => cases e; exact ⟨rfl, q σ S Stq.refl rfl (fun _ _ => rfl) fun _ _ => rfl⟩
  | cons _ _ => cases e
theorem igs_cons {js ks : List Nat} {g : TG} {h : TGs} {f : D → En → Option En} {ff : List D → En → Option En} (h1 : IG K js g f) (h2 : IGs K ks h ff) : IGs K (js ++ ks) (gCons g h) (gsCons f ff) := fun F T env σ H v d env' S r e Q q => by
  cases r with
  | nil => cases e
  | cons r1 rr =>
    simp only [gsCons, Option.bind_eq_some_iff] at e
    obtain ⟨e1, a1, a2⟩ := e
    refine ⟨_, _, rfl, h1 F T env σ H _ _ e1 S r1 a1 _ fun σ1 S1 q1 l1 k1 n1 => ?_⟩
    exact h2 F T e1 σ1 H _ _ env' S1 (rr.stq q1) a2 Q fun σ2 S2 q2 l2 k2 n2 => q σ2 S2 (q1.trans q2) (l2.trans l1) (fun k hk => (k2 k fun z => hk (List.mem_append_right _ z)).trans (k1 k fun z => hk (List.mem_append_left _ z)))
      (fun k hk => (n2 k fun z => hk (List.mem_append_right _ z)).trans (n1 k fun z => hk (List.mem_append_left _ z)))
def gT (n : Nat) (ff : List D → En → Option En) : D → En → Option En
  | .tuple ds, env => if ds.length = n then ff ds env else none
  | _, _ => none
theorem ig_tup {js : List Nat} {h : TGs} {ff : List D → En → Option En} {n : Nat} (h1 : IGs K js h ff) : IG K js (gTup K n h) (gT n ff) := fun F T env σ H v d env' S r e Q q => by
  cases r with
  | tup hs r =>
    simp only [gT] at e
    split at e
    · rename_i hl
      exact ⟨_, _, rfl, hs.imp (·.1) id, r.length.trans hl, h1 F T env σ H _ _ env' S r e Q q⟩
    · cases e
  | _ => cases e
/-- target = e -/
def sAsg (f : D → En → Option En) (fe : EvE) : EvS := fun env => (fe env).bind fun p => (rk p.2 p.1).bind fun d => (f d p.2).map fun e => (.nx, e)
theorem is_asg {js : List Nat} {gg : TG} {ff : D → En → Option En} (h : IE K te fe) (hg : IG K js gg ff) : IS K (tAsg te gg) (sAsg ff fe) := by
  intro F env σ H fl env' S e Dn k
  simp only [sAsg, Option.bind_eq_some_iff, Option.map_eq_some_iff] at e
  obtain ⟨⟨r, e1⟩, a1, d, a2, e2, a3, a4⟩ := e
  cases a4
  refine h F T0 env σ H r e1 S a1 _ fun v H' S' st rv => ?_
  exact hg F T0 e1 σ H' v d env' S' (rk_ok S' rv a2) a3 _ fun σ' S2 q2 _ _ _ => k σ' H' S2 (st.q.trans q2)
/-! walks -/
def JOk (K : PySem.W.Frag) (J : It) (items : List D) (O : Addr → Prop) (H : Hp) : Prop := ∀ (O' : Addr → Prop) (H2 : Hp), (∀ a o, H a = some o → ¬ O a → ¬ O' a) → (∀ a o, ¬ O a → H a = some o → H2 a = some o) → (∀ a, O' a → H2 a ≠ none) →
  (∀ i d, items[i]? = some d → J.go i H2 ∧ ∀ x H', J.yld i H2 x H' → Ext (fun _ => False) H2 H' ∧ Rp K O' H' x d) ∧ ∀ i, items.length ≤ i → J.stop i H2
abbrev EvW := En → Option (List D × En)
def IW (K : PySem.W.Frag) (wi : TI) (f : EvW) : Prop := ∀ F T env σ H items env', StOk K F T H env σ → f env = some (items, env') → ∀ Rr : It → Hp → Prop,
  (∀ J H', StOk K F T H' env' σ → Stp env σ H env' H' → JOk K J items (Ow F T env' σ) H' → Rr J H') → wi σ H Rr
def forE (g : D → En → Option En) (b : EvS) : List D → EvS
  | [], env => some (.nx, env)
  | x :: xs, env => (g x env).bind fun e1 => (b e1).bind fun p => match p.1 with
    | .nx => forE g b xs p.2
    | .ct => forE g b xs p.2
    | .bk => some (.nx, p.2)
    | .rt r => some (.rt r, p.2)
def sFor (fw : EvW) (g : D → En → Option En) (b : EvS) : EvS := fun env => (fw env).bind fun p => forE g b p.1 p.2
theorem is_for {wi : TI} {fw : EvW} {js : List Nat} {gg : TG} {ff : D → En → Option En} (hw : IW K wi fw) (hg : IG K js gg ff) (hb : IS K t f) : IS K (tFor wi gg t) (sFor fw ff f) := by
  intro F env σ H fl env' S e Dn k
  simp only [sFor, Option.bind_eq_some_iff] at e
  obtain ⟨⟨items, e1⟩, a1, a2⟩ := e
  refine hw F T0 env σ H items e1 S a1 _ fun J H1 S1 s1 jo => ?_
  have k1 := k.pre s1.q
  clear k s1 a1 S
  refine ⟨fun i m σ' H' => ∃ e', StOk K F T0 H' e' σ' ∧ Stq e1 σ H1 e' σ' H' ∧ m = items.length - i ∧ i ≤ items.length ∧ forE ff f (items.drop i) e' = some (fl, env'), ⟨_, e1, S1, Stq.refl, rfl, Nat.zero_le _, by simpa using a2⟩, ?_⟩
  rintro i m σ' H' ⟨e', S', st, rfl, hi, he⟩
  obtain ⟨j1, j2⟩ := jo (Ow F T0 e' σ') H' (fun a o q n z => by
      rcases z with z | z | z
      · exact n (.inl z)
      · exact z
      · rcases st.wr a z with z | z
        · exact n (.inr (.inr z))
        · rw [q] at z; cases z) (fun a o n q => st.ext.same a o q fun z => n (.inr (.inr z))) (fun a h => S'.olive h)
  by_cases hlt : i < items.length
  · have gi : items[i]? = some items[i] := List.getElem?_eq_getElem hlt
    obtain ⟨go, yl⟩ := j1 i _ gi
    rw [List.drop_eq_getElem_cons hlt] at he
    simp only [forE, Option.bind_eq_some_iff] at he
    obtain ⟨e2, b1, ⟨fl2, e3⟩, b2, b3⟩ := he
    refine .inr ⟨go, fun σ2 H2 => ∃ e', StOk K F T0 H2 e' σ2 ∧ Stq e1 σ H1 e' σ2 H2 ∧ i + 1 ≤ items.length ∧ forE ff f (items.drop (i + 1)) e' = some (fl, env'), ?_, ?_⟩
    · rintro σ2 H2 ⟨e', c1, c2, c3, c4⟩
      exact ⟨items.length - (i + 1), by omega, e', c1, c2, rfl, c3, c4⟩
    · intro x H2 hy
      obtain ⟨x2, rx⟩ := yl x H2 hy
      have S2 := S'.lay x2
      refine hg F T0 e' σ' H2 x _ e2 S2 rx b1 _ fun σ2 S3 q3 _ _ _ => ?_
      have q4 : Stq e1 σ H1 e2 σ2 H2 := (st.trans (Stp.lay x2).q).trans q3
      refine hb F e2 σ2 H2 fl2 e3 S3 b2 _ ?_
      cases fl2 with
      | nx => exact fun σ3 H3 S4 q5 => ⟨e3, S4, q4.trans q5, hlt, b3⟩
      | ct => exact fun σ3 H3 S4 q5 => ⟨e3, S4, q4.trans q5, hlt, b3⟩
      | bk => cases b3; exact fun σ3 H3 S4 q5 => k1 σ3 H3 S4 (q4.trans q5)
      | rt r => cases b3; exact k1
  · have ei : i = items.length := by omega
    subst ei
    rw [List.drop_length] at he
    cases he
    exact .inl ⟨j2 _ (Nat.le_refl _), k1 σ' H' S' st⟩
def whE (c : EvT) (b : EvS) : Nat → EvS
  | 0, _ => none
  | n + 1, env => (c env).bind fun p => if p.1 = true then (b p.2).bind fun q => match q.1 with
    | .nx => whE c b n q.2
    | .ct => whE c b n q.2
    | .bk => some (.nx, q.2)
    | .rt r => some (.rt r, q.2) else some (.nx, p.2)
theorem is_while {n : Nat} (hc : IT K c fc) (hb : IS K t f) : IS K (tWhile c t) (whE fc f n) := by
  intro F env σ H fl env' S e Dn k
  refine ⟨fun m σ' H' => ∃ e', StOk K F T0 H' e' σ' ∧ Stq env σ H e' σ' H' ∧ whE fc f m e' = some (fl, env'), ⟨n, env, S, Stq.refl, e⟩, ?_⟩
  rintro m σ' H' ⟨e', S', st, he⟩
  cases m with
  | zero => cases he
  | succ m =>
    simp only [whE, Option.bind_eq_some_iff] at he
    obtain ⟨⟨b, e1⟩, a1, a2⟩ := he
    refine hc F T0 e' σ' H' b e1 S' a1 _ fun H1 S1 s1 => ?_
    cases b with
    | false =>
      simp only [Bool.false_eq_true, if_false] at a2 ⊢
      cases a2
      exact k σ' H1 S1 (st.trans s1.q)
    | true =>
      simp only [if_true, Option.bind_eq_some_iff] at a2 ⊢
      obtain ⟨⟨fl2, e3⟩, b2, b3⟩ := a2
      refine ⟨fun σ2 H2 => ∃ e', StOk K F T0 H2 e' σ2 ∧ Stq env σ H e' σ2 H2 ∧ whE fc f m e' = some (fl, env'), fun σ2 H2 h => ⟨m, Nat.lt_succ_self m, h⟩, ?_⟩
      refine hb F e1 σ' H1 fl2 e3 S1 b2 _ ?_
      have q4 := st.trans s1.q
      cases fl2 with
      | nx => exact fun σ3 H3 S4 q5 => ⟨e3, S4, q4.trans q5, b3⟩
      | ct => exact fun σ3 H3 S4 q5 => ⟨e3, S4, q4.trans q5, b3⟩
      | bk => cases b3; exact fun σ3 H3 S4 q5 => k σ3 H3 S4 (q4.trans q5)
      | rt r => cases b3; exact k
end
end GD

namespace GD
open PySem PySem.Spec PyProof.Rows L2
/-! ### comprehensions -/
def wipeE (env : En) : List Nat → En
  | [] => env
  | v :: vs => (wipeE env vs).set v none
theorem wipeE_len (env : En) : ∀ vs, (wipeE env vs).length = env.length
  | [] => rfl
  | v :: vs => by unfold wipeE; rw [List.length_set, wipeE_len env vs]
theorem wipeE_some {env : En} {i : Nat} {s : Sl} : ∀ {vs : List Nat}, (wipeE env vs)[i]? = some (some s) → env[i]? = some (some s) ∧ i ∉ vs
  | [], h => ⟨h, by simp⟩
  | v :: vs, h => by
    unfold wipeE at h
    rcases set_get h with ⟨_, h⟩ | ⟨hne, h⟩
    · cases h
    · obtain ⟨h1, h2⟩ := wipeE_some h
      exact ⟨h1, by simp only [List.mem_cons, not_or]; exact ⟨fun e => hne e.symm, h2⟩⟩
section
variable {K : PySem.W.Frag} {F : Frm} {T T' : Addr → Prop} {H H1 H2 H' : Hp} {env env1 env2 env' : En} {σ σ1 σ2 σ' : L2.St}
/-- another frame's slots: env's names stand the same -/
theorem StOk.re (S : StOk K F T H env σ) (hl : env'.length = σ'.length) (h : ∀ (i : Nat) (s : Sl), env'[i]? = some (some s) → env[i]? = some (some s) ∧ σ'[i]? = σ[i]?) : StOk K F T H env' σ' := by
  have wr : ∀ b, Wr env' σ' b → Wr env σ b := fun b ⟨i, p, m, e, q⟩ => let ⟨e1, e2⟩ := h i _ e; ⟨i, p, m, e1, by rw [← e2]; exact q⟩
  have ow : ∀ b, Ow F T env' σ' b → Ow F T env σ b := fun b q => q.imp id (.imp id (wr b))
  refine ⟨hl, ?_, ?_, ?_, S.ext, S.dom, S.sub, S.tdm, fun b q z => S.tno b q (wr b z)⟩
  · intro i d e
    obtain ⟨e1, e2⟩ := h i _ e
    obtain ⟨v, q, r⟩ := S.shr i d e1
    exact ⟨v, by rw [e2]; exact q, r.anti ow⟩
  · intro i p m e
    obtain ⟨e1, e2⟩ := h i _ e
    obtain ⟨b, q, r, c⟩ := S.own i p m e1
    exact ⟨b, by rw [e2]; exact q, r.tr (fun b _ _ n q => n (ow b q)) (fun _ _ _ e => e) (fun _ e => e), c⟩
  · intro i j p q m n a e1 e2 s1 s2
    obtain ⟨e1, f1⟩ := h i _ e1
    obtain ⟨e2, f2⟩ := h j _ e2
    rw [f1] at s1; rw [f2] at s2
    exact S.dis i j p q m n a e1 e2 s1 s2
theorem wr_re (h : ∀ (i : Nat) (s : Sl), env'[i]? = some (some s) → env[i]? = some (some s) ∧ σ'[i]? = σ[i]?) : ∀ b, Wr env' σ' b → Wr env σ b := fun b ⟨i, p, m, e, q⟩ => let ⟨e1, e2⟩ := h i _ e; ⟨i, p, m, e1, by rw [← e2]; exact q⟩
/-- what is kept apart may change -/
theorem StOk.updT {p : Addr} {o : HO} (S : StOk K F T H env σ) (tp : T p) (hp : F.H0 p = none) : StOk K F T (upd H p o) env σ := by
  have k : ∀ b u, ¬ Ow F T env σ b → H b = some u → upd H p o b = some u := fun b u n q => by
    rw [upd_ne (fun z => n (by subst z; exact .inr (.inl tp)))]; exact q
  have lv : ∀ a, H a ≠ none → upd H p o a ≠ none := fun a q => by
    by_cases z : a = p
    · subst z; rw [upd_same]; simp
    · rw [upd_ne z]; exact q
  refine ⟨S.len, ?_, ?_, S.dis, ⟨fun a u q n => ?_, fun a q => lv a (S.ext.live a q)⟩, S.dom, S.sub, fun a q => lv a (S.tdm a q), S.tno⟩
  · intro i d e
    obtain ⟨v, q, r⟩ := S.shr i d e
    exact ⟨v, q, r.tr (fun _ _ _ n => n) k⟩
  · intro i q m e
    obtain ⟨b, s, r, c⟩ := S.own i q m e
    have hb : b ≠ p := fun z => by subst z; exact S.tno b tp ⟨i, _, _, e, s⟩
    exact ⟨b, s, r.tr (fun _ _ _ n => n) k (fun u q => by rw [upd_ne hb]; exact q), c⟩
  · have hb : a ≠ p := fun z => by subst z; rw [hp] at q; cases q
    rw [upd_ne hb]
    exact S.ext.same a u q n
end
theorem wipe_eq {σ σ' : L2.St} {vs : List Nat} (hl : σ'.length = σ.length) (h : ∀ k, k ∉ vs → σ'[k]? = σ[k]?) : wipe σ' vs = wipe σ vs := by
  apply List.ext_getElem?
  intro i
  by_cases hi : i ∈ vs
  · have aux : ∀ {τ : L2.St} {vs : List Nat}, i ∈ vs → i < τ.length → (wipe τ vs)[i]? = some none := by
      intro τ vs
      induction vs with
      | nil => intro h; simp at h
      | cons v vs ih =>
        intro h hl
        unfold wipe
        by_cases e : v = i
        · subst e; rw [List.getElem?_set_self (by rw [wipe_length]; exact hl)]
        · rw [List.getElem?_set_ne e]
          exact ih (by simpa [Ne.symm e] using h) hl
    by_cases hlt : i < σ.length
    · rw [aux hi hlt, aux hi (by rw [hl]; exact hlt)]
    · rw [List.getElem?_eq_none (by rw [wipe_length, hl]; omega), List.getElem?_eq_none (by rw [wipe_length]; omega)]
  · rw [wipe_out hi, wipe_out hi, h i hi]
theorem wipe_wipe {σ : L2.St} {vs : List Nat} : wipe (wipe σ vs) vs = wipe σ vs := wipe_eq (wipe_length _ _) fun k hk => wipe_out hk
def compE (vs : List Nat) (g : D → En → Option En) (c : EvT) (e : EvE) : List D → List D → En → Option (List D × En)
  | [], acc, env => some (acc, env)
  | x :: xs, acc, env => (g x env).bind fun e1 => (c e1).bind fun p => if p.1 = true then
      (e p.2).bind fun q => (rk q.2 q.1).bind fun d => if small acc.length = true then compE vs g c e xs (acc ++ [d]) (wipeE q.2 vs) else none
    else compE vs g c e xs acc (wipeE p.2 vs)
def eComp (vs : List Nat) (fw : EvW) (g : D → En → Option En) (c : EvT) (e : EvE) : EvM := fun env => (fw env).bind fun p => (compE vs g c e p.1 [] (wipeE p.2 vs)).map fun q => (.l q.1, q.2)
section
variable {K : PySem.W.Frag} {te : TE} {fe : EvE} {tt : TT} {ft : EvT}
theorem im_comp {wi : TI} {fw : EvW} {js vs : List Nat} {gg : TG} {ff : D → En → Option En} (hw : IW K wi fw) (hg : IG K js gg ff) (ht : IT K tt ft) (he : IE K te fe) (hj : ∀ j ∈ js, j ∈ vs) :
    IM K (tLc wi gg tt te vs) (eComp vs fw ff ft fe) := by
  intro F T env σ H m env' S e Q k
  simp only [eComp, Option.bind_eq_some_iff, Option.map_eq_some_iff] at e
  obtain ⟨⟨items, e1⟩, a1, ⟨ds, e2⟩, a2, a3⟩ := e
  obtain ⟨rfl, hee⟩ : m = .l ds ∧ e2 = env' := by cases a3; exact ⟨rfl, rfl⟩
  subst hee
  clear a3
  refine hw F T env σ H items e1 S a1 _ fun J H1 S1 s1 jo p np => ?_
  have np0 : H p = none := by
    cases h : H p with
    | none => rfl
    | some o => exact absurd np (s1.ext.live p (by rw [h]; simp))
  have nF : F.H0 p = none := S1.fresh0 np
  -- the state of the walk
  refine ⟨fun i mm H3 => ∃ e' acc dacc, StOk K F (fun a => T a ∨ a = p) H3 e' (wipe σ vs) ∧ (∀ (j : Nat) (s : Sl), e'[j]? = some (some s) → j ∉ vs) ∧ Ext (Wr e1 σ) H1 H3 ∧ (∀ a, Wr e' (wipe σ vs) a → Wr e1 σ a) ∧
      H3 p = some (.lst acc) ∧ RpAll K (Ow F (fun a => T a ∨ a = p) e' (wipe σ vs)) H3 acc dacc ∧ mm = items.length - i ∧ i ≤ items.length ∧ compE vs ff ft fe (items.drop i) dacc e' = some (ds, e2), ?_, ?_⟩
  · have S2 : StOk K F (fun a => T a ∨ a = p) (upd H1 p (.lst [])) e1 σ := S1.new np
    have hre : ∀ (i : Nat) (s : Sl), (wipeE e1 vs)[i]? = some (some s) → e1[i]? = some (some s) ∧ (wipe σ vs)[i]? = σ[i]? := fun i s h => ⟨(wipeE_some h).1, wipe_out (wipeE_some h).2⟩
    exact ⟨_, wipeE e1 vs, [], [], S2.re (by rw [wipeE_len, wipe_length]; exact S1.len) hre, fun j s h => (wipeE_some h).2, Ext.new np, wr_re hre, upd_same, .nil, rfl, Nat.zero_le _, by simpa using a2⟩
  · rintro i mm H3 ⟨e', acc, dacc, S', hw', x', wr', hp', ra', rfl, hi, hc⟩
    have hdis : ∀ a, Wr e' (wipe σ vs) a → a ≠ p := fun a h z => by subst z; exact S'.tno a (.inr rfl) h
    obtain ⟨j1, j2⟩ := jo (Ow F (fun a => T a ∨ a = p) e' (wipe σ vs)) H3 (fun a o q n z => by
        rcases z with z | (z | z) | z
        · exact n (.inl z)
        · exact n (.inr (.inl z))
        · subst z; rw [np] at q; cases q
        · exact n (.inr (.inr (wr' a z)))) (fun a o n q => x'.same a o q fun z => n (.inr (.inr z))) (fun a h => S'.olive h)
    by_cases hlt : i < items.length
    · have gi : items[i]? = some items[i] := List.getElem?_eq_getElem hlt
      obtain ⟨go, yl⟩ := j1 i _ gi
      rw [List.drop_eq_getElem_cons hlt] at hc
      simp only [compE, Option.bind_eq_some_iff] at hc
      obtain ⟨e3, b1, ⟨b, e4⟩, b2, b3⟩ := hc
      refine .inr ⟨go, fun H5 => ∃ e' acc dacc, StOk K F (fun a => T a ∨ a = p) H5 e' (wipe σ vs) ∧ (∀ (j : Nat) (s : Sl), e'[j]? = some (some s) → j ∉ vs) ∧ Ext (Wr e1 σ) H1 H5 ∧ (∀ a, Wr e' (wipe σ vs) a → Wr e1 σ a) ∧
        H5 p = some (.lst acc) ∧ RpAll K (Ow F (fun a => T a ∨ a = p) e' (wipe σ vs)) H5 acc dacc ∧ i + 1 ≤ items.length ∧ compE vs ff ft fe (items.drop (i + 1)) dacc e' = some (ds, e2), ?_, ?_⟩
      · rintro H5 ⟨e', acc, dacc, c1, c2, c3, c4, c5, c6, c7, c8⟩
        exact ⟨items.length - (i + 1), by omega, e', acc, dacc, c1, c2, c3, c4, c5, c6, rfl, c7, c8⟩
      intro x H4 hy
      obtain ⟨x2, rx⟩ := yl x H4 hy
      have S4 := S'.lay x2
      refine hg F _ e' (wipe σ vs) H4 x _ e3 S4 rx b1 _ fun σ5 S5 q5 l5 k5 n5 => ?_
      have hk5 : ∀ k, k ∉ vs → σ5[k]? = (wipe σ vs)[k]? := fun k hk => k5 k fun z => hk (hj k z)
      have wq : wipe σ5 vs = wipe σ vs := (wipe_eq l5 hk5).trans wipe_wipe
      have x4 : Ext (Wr e1 σ) H1 H4 := x'.trans x2 fun _ q => q.elim
      have w5 : ∀ a, Wr e3 σ5 a → Wr e1 σ a ∨ H4 a = none := fun a h => (q5.wr a h).imp (wr' a) id
      have w5' : ∀ a, Wr e3 σ5 a → Wr e1 σ a := fun a h => (w5 a h).elim id fun z => absurd z (S5.wlive h)
      refine ⟨wq, ht F _ e3 σ5 H4 b e4 S5 b2 _ fun H6 S6 s6 => ?_⟩
      have ra6 : RpAll K (Ow F (fun a => T a ∨ a = p) e4 σ5) H6 acc dacc := (ra'.stq ((Stp.lay x2).q.trans q5)).stp s6
      have hp4 : H4 p = some (.lst acc) := x2.same p _ hp' id
      have hp6 : H6 p = some (.lst acc) := s6.ext.same p _ hp4 (S5.tno p (.inr rfl))
      have x6 : Ext (Wr e1 σ) H1 H6 := x4.trans s6.ext fun a q => .inl (w5' a q)
      -- back to the block's start
      have back : ∀ {e7 : En} {H7 : Hp} {acc7 : List V} {d7 : List D}, StOk K F (fun a => T a ∨ a = p) H7 e7 σ5 → (∀ a, Wr e7 σ5 a → Wr e1 σ a) → Ext (Wr e1 σ) H1 H7 → H7 p = some (.lst acc7) →
          RpAll K (Ow F (fun a => T a ∨ a = p) e7 σ5) H7 acc7 d7 → compE vs ff ft fe (items.drop (i + 1)) d7 (wipeE e7 vs) = some (ds, e2) →
          ∃ e' acc dacc, StOk K F (fun a => T a ∨ a = p) H7 e' (wipe σ vs) ∧ (∀ (j : Nat) (s : Sl), e'[j]? = some (some s) → j ∉ vs) ∧ Ext (Wr e1 σ) H1 H7 ∧ (∀ a, Wr e' (wipe σ vs) a → Wr e1 σ a) ∧
            H7 p = some (.lst acc) ∧ RpAll K (Ow F (fun a => T a ∨ a = p) e' (wipe σ vs)) H7 acc dacc ∧ i + 1 ≤ items.length ∧ compE vs ff ft fe (items.drop (i + 1)) dacc e' = some (ds, e2) := by
        intro e7 H7 acc7 d7 S7 w7 x7 hp7 ra7 c7
        have hre : ∀ (i : Nat) (s : Sl), (wipeE e7 vs)[i]? = some (some s) → e7[i]? = some (some s) ∧ (wipe σ vs)[i]? = σ5[i]? := fun i s h => ⟨(wipeE_some h).1, (hk5 i (wipeE_some h).2).symm⟩
        have wre := wr_re hre
        exact ⟨wipeE e7 vs, acc7, d7, S7.re (by rw [wipeE_len, wipe_length, S7.len, l5, wipe_length]) hre, fun j s h => (wipeE_some h).2, x7, fun a h => w7 a (wre a h), hp7,
          ra7.anti (fun a h => h.imp id (.imp id (wre a))), hlt, c7⟩
      cases b with
      | false =>
        simp only [Bool.false_eq_true, if_false] at b3 ⊢
        exact back S6 (fun a h => w5' a (s6.wr a h)) x6 hp6 ra6 b3
      | true =>
        simp only [if_true, Option.bind_eq_some_iff] at b3 ⊢
        obtain ⟨⟨r, e7⟩, b4, d, b5, b6⟩ := b3
        split at b6
        · rename_i hs
          refine he F _ e4 σ5 H6 r e7 S6 b4 _ fun y H7 S7 s7 ry => ?_
          have hp7 : H7 p = some (.lst acc) := s7.ext.same p _ hp6 (S6.tno p (.inr rfl))
          have ra7 := ra6.stp s7
          have ry7 := rk_ok S7 ry b5
          refine ⟨acc, hp7, by rw [ra7.length]; exact small_lt hs, ?_⟩
          have x7 : Ext (Wr e1 σ) H1 H7 := x6.trans s7.ext fun a q => .inl (w5' a (s6.wr a q))
          have x8 : Ext (Wr e1 σ) H1 (upd H7 p (.lst (acc ++ [y]))) := ⟨fun a u q n => by
              rw [upd_ne (ne_of_none q np)]; exact x7.same a u q n, fun a q => by
              by_cases z : a = p
              · subst z; rw [upd_same]; simp
              · rw [upd_ne z]; exact x7.live a q⟩
          have S8 : StOk K F (fun a => T a ∨ a = p) (upd H7 p (.lst (acc ++ [y]))) e7 σ5 := S7.updT (.inr rfl) nF
          have ra8 : RpAll K (Ow F (fun a => T a ∨ a = p) e7 σ5) (upd H7 p (.lst (acc ++ [y]))) (acc ++ [y]) (dacc ++ [d]) := (ra7.append (.one ry7)).tr (fun _ _ _ n => n) fun a u n q => by
            rw [upd_ne (fun z => n (by subst z; exact .inr (.inl (.inr rfl))))]; exact q
          exact back S8 (fun a h => w5' a (s6.wr a (s7.wr a h))) x8 upd_same ra8 b6
        · cases b6
    · have ei : i = items.length := by omega
      subst ei
      rw [List.drop_length] at hc
      cases hc
      refine .inl ⟨j2 _ (Nat.le_refl _), ?_⟩
      have hre : ∀ (i : Nat) (s : Sl), e2[i]? = some (some s) → e2[i]? = some (some s) ∧ σ[i]? = (wipe σ vs)[i]? := fun i s h => ⟨h, (wipe_out (hw' i s h)).symm⟩
      have hre2 : ∀ (i : Nat) (s : Sl), e2[i]? = some (some s) → e2[i]? = some (some s) ∧ (wipe σ vs)[i]? = σ[i]? := fun i s h => ⟨h, (wipe_out (hw' i s h))⟩
      have S9 : StOk K F (fun a => T a ∨ a = p) H3 e2 σ := S'.re (by rw [S'.len, wipe_length]) hre
      refine k p H3 np0 S9 (s1.trans ⟨x', fun a h => wr' a (wr_re hre a h)⟩) ⟨acc, hp', ra'.anti fun a h => h.imp id (.imp id (wr_re hre a))⟩
end
end GD

namespace GD
open PySem PySem.Spec PyProof.Rows L2
/-! ### defs -/
def ArgOk (K : PySem.W.Frag) (O : Addr → Prop) (H : Hp) (v : V) : Sl → Prop
  | .shr d => Rp K O H v d
  | .own p m => p = true ∧ ∃ a, v = .ref a ∧ O a ∧ MuAt K O H a m
def ArgsOk (K : PySem.W.Frag) (O : Addr → Prop) (H : Hp) : List V → List Sl → Prop
  | [], [] => True
  | v :: vs, s :: ss => ArgOk K O H v s ∧ ArgsOk K O H vs ss
  | _, _ => False
theorem ArgsOk.length {K : PySem.W.Frag} {O : Addr → Prop} {H : Hp} : ∀ {vs : List V} {ss : List Sl}, ArgsOk K O H vs ss → vs.length = ss.length
  | [], [], _ => rfl
  | _ :: _, _ :: _, h => congrArg (· + 1) (ArgsOk.length h.2)
  | [], _ :: _, h => h.elim
  | _ :: _, [], h => h.elim
theorem ArgsOk.get {K : PySem.W.Frag} {O : Addr → Prop} {H : Hp} : ∀ {vs : List V} {ss : List Sl} {i : Nat} {s : Sl}, ArgsOk K O H vs ss → ss[i]? = some s → ∃ v, vs[i]? = some v ∧ ArgOk K O H v s
  | [], [], _, _, _, e => by simp at e
  | v :: _, _ :: _, 0, _, h, e => by simp at e; subst e; exact ⟨v, rfl, h.1⟩
  | _ :: _, _ :: _, i + 1, _, h, e => by
    obtain ⟨v, h1, h2⟩ := ArgsOk.get (i := i) h.2 (by simpa using e)
    exact ⟨v, by simpa using h1, h2⟩
  | [], _ :: _, _, _, h, _ => h.elim
  | _ :: _, [], _, _, h, _ => h.elim
def AW (vs : List V) (ss : List Sl) (a : Addr) : Prop := ∃ (i : Nat) (m : Mu), ss[i]? = some (Sl.own true m) ∧ vs[i]? = some (V.ref a)
def outsE : List Sl → En → Option (List (Option Mu))
  | [], _ => some []
  | .shr _ :: ss, _ :: e => (outsE ss e).map fun l => none :: l
  | .own _ _ :: ss, some (.own true m) :: e => (outsE ss e).map fun l => some m :: l
  | _, _ => none
theorem outsE_get : ∀ {ss : List Sl} {e : En} {outs : List (Option Mu)}, outsE ss e = some outs → (∀ (i : Nat) (m : Mu), outs[i]? = some (some m) → e[i]? = some (some (Sl.own true m))) ∧ (∀ (i : Nat) (p : Bool) (m : Mu), ss[i]? = some (Sl.own p m) → ∃ m', outs[i]? = some (some m'))
  | [], e, outs, h => by simp [outsE] at h; subst h; exact ⟨fun i m h => by simp at h, fun i p m h => by simp at h⟩
  | .shr d :: ss, x :: e, outs, h => by
    simp only [outsE, Option.map_eq_some_iff] at h
    obtain ⟨l, h, rfl⟩ := h
    obtain ⟨h1, h2⟩ := outsE_get h
    exact ⟨fun i m h => by cases i with
      | zero => simp at h
      | succ i => simpa using h1 i m (by simpa using h), fun i p m h => by cases i with
      | zero => simp at h
      | succ i => simpa using h2 i p m (by simpa using h)⟩
  | .own q n :: ss, some (.own true m) :: e, outs, h => by
    simp only [outsE, Option.map_eq_some_iff] at h
    obtain ⟨l, h, rfl⟩ := h
    obtain ⟨h1, h2⟩ := outsE_get h
    exact ⟨fun i m h => by cases i with
      | zero => simp at h; subst h; rfl
      | succ i => simpa using h1 i m (by simpa using h), fun i p m h => by cases i with
      | zero => exact ⟨_, rfl⟩
      | succ i => simpa using h2 i p m (by simpa using h)⟩
  | .shr _ :: _, [], _, h => by simp [outsE] at h
  | .own _ _ :: _, [], _, h => by simp [outsE] at h
  | .own _ _ :: _, none :: _, _, h => by simp [outsE] at h
  | .own _ _ :: _, some (.shr _) :: _, _, h => by simp [outsE] at h
  | .own _ _ :: _, some (.own false _) :: _, _, h => by simp [outsE] at h
abbrev FnS := List Sl → Option (Ret × List (Option Mu))
def env0 (n : Nat) (ss : List Sl) : En := ss.map some ++ List.replicate (n - ss.length) none
def runB (n : Nat) (b : EvS) : FnS := fun ss => (b (env0 n ss)).bind fun p => match p.1 with
  | .rt r => (outsE ss p.2).map fun o => (r, o)
  | .nx => (outsE ss p.2).map fun o => (.val .none, o)
  | _ => none
def OutsOk (K : PySem.W.Frag) (O : Addr → Prop) (H' : Hp) (vs : List V) (outs : List (Option Mu)) : Prop := ∀ (i : Nat) (m : Mu), outs[i]? = some (some m) → ∃ a, vs[i]? = some (V.ref a) ∧ MuAt K O H' a m
def CEnd (K : PySem.W.Frag) (O : Addr → Prop) (H H' : Hp) (vs : List V) (outs : List (Option Mu)) (v : V) : Ret → Prop
  | .val d => Rp K O H' v d ∧ OutsOk K O H' vs outs
  | .new m => ∃ p, v = .ref p ∧ H p = none ∧ MuAt K (fun a => O a ∨ a = p) H' p m ∧ OutsOk K (fun a => O a ∨ a = p) H' vs outs
def Dis (vs : List V) (ss : List Sl) : Prop := ∀ (i j : Nat) (m n : Mu) (a : Addr), ss[i]? = some (Sl.own true m) → ss[j]? = some (Sl.own true n) → vs[i]? = some (V.ref a) → vs[j]? = some (V.ref a) → i = j
def spD (K : PySem.W.Frag) (k : Nat) (M : FnS) : Sp := fun vs H Q _ => ∃ (O : Addr → Prop) (ss : List Sl) (r : Ret) (outs : List (Option Mu)), vs.length = k ∧ (∀ a, O a → H a ≠ none) ∧ ArgsOk K O H vs ss ∧ Dis vs ss ∧ M ss = some (r, outs) ∧
  (∀ (i : Nat) (p : Bool) (m : Mu), ss[i]? = some (Sl.own p m) → ∃ m', outs[i]? = some (some m')) ∧
  ∀ v H', Ext (AW vs ss) H H' → CEnd K O H H' vs outs v r → Q v H'
section
variable {K : PySem.W.Frag}
theorem env0_get {n : Nat} {ss : List Sl} {i : Nat} {s : Sl} (h : (env0 n ss)[i]? = some (some s)) : ss[i]? = some s := by
  unfold env0 at h
  by_cases hi : i < ss.length
  · rw [List.getElem?_append_left (by simpa using hi), List.getElem?_map] at h
    cases e : ss[i]? with
    | none => rw [e] at h; cases h
    | some x => rw [e] at h; cases h; rfl
  · rw [List.getElem?_append_right (by simpa using Nat.le_of_not_lt hi), List.getElem?_replicate] at h
    split at h <;> cases h
theorem start_get {N : List Str} {vs : List V} {i : Nat} {v : V} (h : vs[i]? = some v) : (L2.start N vs)[i]? = some (some v) := by
  unfold L2.start
  have hi := (List.getElem?_eq_some_iff.mp h).1
  rw [List.getElem?_append_left (by simpa using hi), List.getElem?_map, h]
  rfl
/-- a def's body: what it reads as is what the def gives -/
theorem body_ok {t : TS} {b : EvS} {N : List Str} {vs : List V} {H : Hp} {Q : VK} {k : Nat} (hb : IS K t b) (hk : k ≤ N.length) (h : ∃ (O : Addr → Prop) (ss : List Sl) (r : Ret) (outs : List (Option Mu)), vs.length = k ∧ (∀ a, O a → H a ≠ none) ∧ ArgsOk K O H vs ss ∧ Dis vs ss ∧ runB N.length b ss = some (r, outs) ∧
      (∀ (i : Nat) (p : Bool) (m : Mu), ss[i]? = some (Sl.own p m) → ∃ m', outs[i]? = some (some m')) ∧ ∀ v H', Ext (AW vs ss) H H' → CEnd K O H H' vs outs v r → Q v H') :
    t { nx := fun _ H' => Q .non H', rt := Q } (L2.start N vs) H := by
  obtain ⟨O, ss, r, outs, hlen, hO, ha, hd, hm, ho, q⟩ := h
  simp only [runB, Option.bind_eq_some_iff] at hm
  obtain ⟨⟨fl, env'⟩, h1, h2⟩ := hm
  have hss := ha.length
  let F : Frm := ⟨O, AW vs ss, H, vs⟩
  have wr0 : ∀ a, Wr (env0 N.length ss) (L2.start N vs) a → AW vs ss a ∧ O a := by
    rintro a ⟨i, p, m, e, s⟩
    have e' := env0_get e
    obtain ⟨v, hv, rfl, b, rfl, hb, _⟩ := ha.get e'
    rw [start_get hv] at s; cases s
    exact ⟨⟨i, m, e', hv⟩, hb⟩
  have S0 : StOk K F T0 H (env0 N.length ss) (L2.start N vs) := by
    refine ⟨?_, ?_, ?_, ?_, Ext.refl, hO, ?_, fun a h => h.elim, fun a h => h.elim⟩
    · simp [env0, L2.start, hss]
    · intro i d e
      obtain ⟨v, hv, r⟩ := ha.get (env0_get e)
      exact ⟨v, start_get hv, Rp.anti (fun a h => h.elim id fun h => h.elim (fun z => z.elim) fun z => (wr0 a z).2) r⟩
    · intro i p m e
      have e' := env0_get e
      obtain ⟨v, hv, rfl, b, rfl, hb, mu⟩ := ha.get e'
      exact ⟨b, start_get hv, mu.tr (fun a _ _ n h => n (h.elim id fun h => h.elim (fun z => z.elim) fun z => (wr0 a z).2)) (fun _ _ _ e => e) (fun _ e => e), by simp only [if_true]; exact ⟨⟨i, m, e', hv⟩, hv⟩⟩
    · intro i j p q m n a e1 e2 s1 s2
      have f1 := env0_get e1
      have f2 := env0_get e2
      obtain ⟨v1, hv1, rfl, b1, rfl, _⟩ := ha.get f1
      obtain ⟨v2, hv2, rfl, b2, rfl, _⟩ := ha.get f2
      rw [start_get hv1] at s1; cases s1
      rw [start_get hv2] at s2; cases s2
      exact hd i j m n _ f1 f2 hv1 hv2
    · rintro a ⟨i, m, e, hv⟩
      obtain ⟨v, hv', _, b, rfl, hb, _⟩ := ha.get e
      rw [hv] at hv'; cases hv'
      exact hb
  -- the ends
  have fin : ∀ (r' : Ret) (o' : List (Option Mu)) (e' : En), outsE ss e' = some o' → ∀ v σ' H', RetOk K F H' v e' σ' r' → Ext (AW vs ss) H H' ∧ CEnd K O H H' vs o' v r' := by
    intro r' o' e' ho' v σ' H' hr
    have ex : ∀ {T'}, StOk K F T' H' e' σ' → Ext (AW vs ss) H H' := fun S => S.ext
    have outs' : ∀ {T'} (O' : Addr → Prop), StOk K F T' H' e' σ' → (∀ a, O' a → Ow F T' e' σ' a) → OutsOk K O' H' vs o' := by
      intro T' O' S hO' i m hm
      obtain ⟨a, s, mu, c⟩ := S.own i true m ((outsE_get ho').1 i m hm)
      exact ⟨a, by simpa using c.2, mu.tr (fun b _ _ n h => n (hO' b h)) (fun _ _ _ e => e) (fun _ e => e)⟩
    cases r' with
    | val d =>
      obtain ⟨S, r⟩ := hr
      exact ⟨ex S, r.anti fun a h => .inl h, outs' O S fun a h => .inl h⟩
    | new m =>
      obtain ⟨p, T', rfl, np, S, op, mu⟩ := hr
      have sub : ∀ a, (O a ∨ a = p) → Ow F T' e' σ' a := fun a h => h.elim .inl fun h => by subst h; exact op
      exact ⟨ex S, p, rfl, np, mu.tr (fun b _ _ n h => n (sub b h)) (fun _ _ _ e => e) (fun _ e => e), outs' _ S sub⟩
  refine hb F (env0 N.length ss) (L2.start N vs) H fl env' S0 h1 _ ?_
  cases fl with
  | nx =>
    simp only [Option.map_eq_some_iff, Prod.mk.injEq] at h2
    obtain ⟨o, h3, rfl, rfl⟩ := h2
    intro σ' H' S' _
    obtain ⟨x, c⟩ := fin (.val .none) o env' h3 .non σ' H' ⟨S', .non⟩
    exact q _ _ x c
  | rt r' =>
    simp only [Option.map_eq_some_iff, Prod.mk.injEq] at h2
    obtain ⟨o, h3, rfl, rfl⟩ := h2
    intro v σ' H' hr
    obtain ⟨x, c⟩ := fin r' o env' h3 v σ' H' hr
    exact q _ _ x c
  | bk => cases h2
  | ct => cases h2
end
/-! ### calls of defs -/
def slArgs (env : En) : List R → Option (List Sl)
  | [] => some []
  | .val d :: l => (slArgs env l).map fun s => .shr d :: s
  | .slot i :: l => (slOf env i).bind fun s => (slArgs env l).map fun r => (match s with | .own _ m => .own true m | .shr d => .shr d) :: r
def ownSlots (env : En) : List R → List Nat
  | [] => []
  | .slot i :: l => if (ownOf env i).isSome then i :: ownSlots env l else ownSlots env l
  | .val _ :: l => ownSlots env l
def updO : En → List R → List (Option Mu) → En
  | env, .slot i :: l, some m :: os => updO (match slOf env i with | some (.own p _) => env.set i (some (.own p m)) | _ => env) l os
  | env, _ :: l, _ :: os => updO env l os
  | env, _, _ => env
section
variable {K : PySem.W.Frag} {F : Frm} {T : Addr → Prop} {H H' : Hp} {env env' : En} {σ : L2.St}
theorem updO_len : ∀ {l : List R} {os : List (Option Mu)} {env : En}, (updO env l os).length = env.length
  | .slot i :: l, some m :: os, env => by
    unfold updO
    rw [updO_len]
    split <;> simp
  | .slot i :: l, none :: os, env => by unfold updO; exact updO_len
  | .val _ :: l, _ :: os, env => by unfold updO; exact updO_len
  | [], _, env => by unfold updO; rfl
  | r :: _, [], env => by cases r <;> simp [updO]
theorem updO_get : ∀ {l : List R} {os : List (Option Mu)} {env : En} {j : Nat} {s : Sl}, (updO env l os)[j]? = some (some s) →
    (env[j]? = some (some s) ∧ ∀ (k : Nat) (m : Mu), l[k]? = some (R.slot j) → os[k]? = some (some m) → ∃ d, s = .shr d) ∨ (∃ (p : Bool) (m m' : Mu) (k : Nat), env[j]? = some (some (Sl.own p m)) ∧ s = .own p m' ∧ l[k]? = some (R.slot j) ∧ os[k]? = some (some m'))
  | .slot i :: l, some m :: os, env, j, s, h => by
    unfold updO at h
    rcases updO_get h with ⟨h1, h2⟩ | ⟨p, n, n', k, h1, h2, h3, h4⟩
    · cases g : slOf env i with
      | none =>
        simp only [g] at h1
        refine .inl ⟨h1, fun k m' a b => ?_⟩
        cases k with
        | zero =>
          simp at a; subst a
          have := slOf_eq.mpr h1
          rw [g] at this; cases this
        | succ k => exact h2 k m' (by simpa using a) (by simpa using b)
      | some s' =>
        cases s' with
        | shr d =>
          simp only [g] at h1
          refine .inl ⟨h1, fun k m' a b => ?_⟩
          cases k with
          | zero =>
            simp at a; subst a
            have := slOf_eq.mpr h1
            rw [g] at this; cases this
            exact ⟨d, rfl⟩
          | succ k => exact h2 k m' (by simpa using a) (by simpa using b)
        | own p n =>
          simp only [g] at h1
          rcases set_get h1 with ⟨rfl, hh⟩ | ⟨hne, h1⟩
          · cases hh
            exact .inr ⟨p, n, m, 0, slOf_eq.mp g, rfl, rfl, rfl⟩
          · refine .inl ⟨h1, fun k m' a b => ?_⟩
            cases k with
            | zero => simp at a; exact absurd a hne
            | succ k => exact h2 k m' (by simpa using a) (by simpa using b)
    · have h1' : ∃ n, env[j]? = some (some (Sl.own p n)) := by
        cases g : slOf env i with
        | none => simp only [g] at h1; exact ⟨_, h1⟩
        | some s' =>
          cases s' with
          | shr d => simp only [g] at h1; exact ⟨_, h1⟩
          | own q n2 =>
            simp only [g] at h1
            rcases set_get h1 with ⟨rfl, hh⟩ | ⟨hne, h1⟩
            · cases hh; exact ⟨_, slOf_eq.mp g⟩
            · exact ⟨_, h1⟩
      obtain ⟨n2, h1'⟩ := h1'
      exact .inr ⟨p, n2, n', k + 1, h1', h2, by simpa using h3, by simpa using h4⟩
  | .slot i :: l, none :: os, env, j, s, h => by
    unfold updO at h
    rcases updO_get h with ⟨h1, h2⟩ | ⟨p, n, n', k, h1, h2, h3, h4⟩
    · refine .inl ⟨h1, fun k m' a b => ?_⟩
      cases k with
      | zero => simp at b
      | succ k => exact h2 k m' (by simpa using a) (by simpa using b)
    · exact .inr ⟨p, n, n', k + 1, h1, h2, by simpa using h3, by simpa using h4⟩
  | .val d :: l, o :: os, env, j, s, h => by
    unfold updO at h
    rcases updO_get h with ⟨h1, h2⟩ | ⟨p, n, n', k, h1, h2, h3, h4⟩
    · refine .inl ⟨h1, fun k m' a b => ?_⟩
      cases k with
      | zero => simp at a
      | succ k => exact h2 k m' (by simpa using a) (by simpa using b)
    · exact .inr ⟨p, n, n', k + 1, h1, h2, by simpa using h3, by simpa using h4⟩
  | [], _, env, j, s, h => by unfold updO at h; exact .inl ⟨h, fun k m' a b => by simp at a⟩
  | r :: _, [], env, j, s, h => by cases r <;> (simp only [updO] at h; exact .inl ⟨h, fun k m' a b => by simp at b⟩)
theorem RvAll.get : ∀ {vs : List V} {l : List R} {k : Nat} {r : R}, RvAll K F T H env σ vs l → l[k]? = some r → ∃ v, vs[k]? = some v ∧ RvOk K F T H env σ v r
  | [], [], _, _, _, e => by simp at e
  | v :: _, _ :: _, 0, _, h, e => by simp at e; subst e; exact ⟨v, rfl, h.1⟩
  | _ :: _, _ :: _, i + 1, _, h, e => by
    obtain ⟨v, h1, h2⟩ := RvAll.get (k := i) h.2 (by simpa using e)
    exact ⟨v, by simpa using h1, h2⟩
  | [], _ :: _, _, _, h, _ => h.elim
  | _ :: _, [], _, _, h, _ => h.elim
theorem slArgs_get : ∀ {l : List R} {ss : List Sl}, slArgs env l = some ss → ss.length = l.length ∧ ∀ (k : Nat) (s : Sl), ss[k]? = some s → (∃ d, l[k]? = some (R.val d) ∧ s = .shr d) ∨ (∃ (i : Nat) (p : Bool) (m : Mu), l[k]? = some (R.slot i) ∧ env[i]? = some (some (Sl.own p m)) ∧ s = .own true m) ∨ (∃ (i : Nat) (d : D), l[k]? = some (R.slot i) ∧ env[i]? = some (some (Sl.shr d)) ∧ s = .shr d)
  | [], ss, h => by simp [slArgs] at h; subst h; exact ⟨rfl, fun k s h => by simp at h⟩
  | .val d :: l, ss, h => by
    simp only [slArgs, Option.map_eq_some_iff] at h
    obtain ⟨r, h, rfl⟩ := h
    obtain ⟨h1, h2⟩ := slArgs_get h
    refine ⟨by simp [h1], fun k s hk => ?_⟩
    cases k with
    | zero => simp at hk; exact .inl ⟨d, rfl, hk.symm⟩
    | succ k => simpa using h2 k s (by simpa using hk)
  | .slot i :: l, ss, h => by
    simp only [slArgs, Option.bind_eq_some_iff, Option.map_eq_some_iff] at h
    obtain ⟨s0, h0, r, h, rfl⟩ := h
    obtain ⟨h1, h2⟩ := slArgs_get h
    refine ⟨by simp [h1], fun k s hk => ?_⟩
    cases k with
    | zero =>
      have g := slOf_eq.mp h0
      cases s0 with
      | own p m => simp at hk; exact .inr (.inl ⟨i, p, m, rfl, g, hk.symm⟩)
      | shr d => simp at hk; exact .inr (.inr ⟨i, d, rfl, g, hk.symm⟩)
    | succ k => simpa using h2 k s (by simpa using hk)
theorem slArgs_ok (S : StOk K F T H env σ) : ∀ {vs : List V} {l : List R} {ss : List Sl}, RvAll K F T H env σ vs l → slArgs env l = some ss → ArgsOk K (Ow F T env σ) H vs ss
  | [], [], ss, _, e => by simp [slArgs] at e; subst e; trivial
  | v :: vs, .val d :: l, ss, h, e => by
    simp only [slArgs, Option.map_eq_some_iff] at e
    obtain ⟨r, e, rfl⟩ := e
    exact ⟨h.1, slArgs_ok S h.2 e⟩
  | v :: vs, .slot i :: l, ss, h, e => by
    simp only [slArgs, Option.bind_eq_some_iff, Option.map_eq_some_iff] at e
    obtain ⟨s0, h0, r, e, rfl⟩ := e
    refine ⟨?_, slArgs_ok S h.2 e⟩
    have g := slOf_eq.mp h0
    have hv : σ[i]? = some (some v) := h.1
    cases s0 with
    | own p m =>
      obtain ⟨a, q1, q2, _⟩ := S.own i p m g
      rw [hv] at q1; cases q1
      exact ⟨rfl, a, rfl, .inr (.inr ⟨i, p, m, g, hv⟩), q2⟩
    | shr d =>
      obtain ⟨w, q1, q2⟩ := S.shr i d g
      rw [hv] at q1; cases q1
      exact q2
  | [], _ :: _, _, h, _ => h.elim
  | _ :: _, [], _, h, _ => h.elim
theorem ownSlots_dis : ∀ {l : List R} {i j k : Nat} {p q : Bool} {m n : Mu}, (ownSlots env l).Nodup → l[i]? = some (R.slot k) → l[j]? = some (R.slot k) → env[k]? = some (some (Sl.own p m)) → i = j
  | [], _, _, _, _, _, _, _, _, h, _, _ => by simp at h
  | r :: l, i, j, k, p, q, m, n, nd, h1, h2, g => by
    have gk : (ownOf env k).isSome = true := by
      unfold ownOf; rw [slOf_eq.mpr g]; rfl
    have memk : ∀ {l : List R} {i : Nat}, l[i]? = some (R.slot k) → k ∈ ownSlots env l := by
      intro l
      induction l with
      | nil => intro i h; simp at h
      | cons r l ih =>
        intro i h
        cases i with
        | zero => simp at h; subst h; unfold ownSlots; rw [if_pos gk]; exact List.mem_cons_self
        | succ i =>
          have := ih (i := i) (by simpa using h)
          cases r with
          | val d => unfold ownSlots; exact this
          | slot x => unfold ownSlots; split
                      · exact List.mem_cons_of_mem _ this
                      · exact this
    cases i with
    | zero =>
      cases j with
      | zero => rfl
      | succ j =>
        simp at h1; subst h1
        unfold ownSlots at nd
        rw [if_pos gk] at nd
        exact absurd (memk (by simpa using h2)) (List.nodup_cons.mp nd).1
    | succ i =>
      cases j with
      | zero =>
        simp at h2; subst h2
        unfold ownSlots at nd
        rw [if_pos gk] at nd
        exact absurd (memk (by simpa using h1)) (List.nodup_cons.mp nd).1
      | succ j =>
        have nd' : (ownSlots env l).Nodup := by
          cases r with
          | val d => unfold ownSlots at nd; exact nd
          | slot x =>
            unfold ownSlots at nd
            split at nd
            · exact (List.nodup_cons.mp nd).2
            · exact nd
        exact congrArg (· + 1) (ownSlots_dis (p := p) (q := q) (m := m) (n := n) nd' (by simpa using h1) (by simpa using h2) g)
/-- behind a call -/
theorem call_ok {vs : List V} {l : List R} {ss : List Sl} {outs : List (Option Mu)} {T' : Addr → Prop} (S : StOk K F T H env σ) (rv : RvAll K F T H env σ vs l) (hss : slArgs env l = some ss)
    (hou : ∀ (i : Nat) (p : Bool) (m : Mu), ss[i]? = some (Sl.own p m) → ∃ m', outs[i]? = some (some m')) (x : Ext (AW vs ss) H H') (hT : ∀ a, T a → T' a) (hT2 : ∀ a, T' a → T a ∨ H a = none) (hT3 : ∀ a, T' a → H' a ≠ none)
    (ho : OutsOk K (fun a => Ow F T env σ a ∨ T' a) H' vs outs) : StOk K F T' H' (updO env l outs) σ ∧ Stp env σ H (updO env l outs) H' := by
  have aw : ∀ a, AW vs ss a → ∃ (k i : Nat) (p : Bool) (m m' : Mu), l[k]? = some (R.slot i) ∧ env[i]? = some (some (Sl.own p m)) ∧ σ[i]? = some (some (V.ref a)) ∧ outs[k]? = some (some m') := by
    rintro a ⟨k, m, e, hv⟩
    obtain ⟨m', hm'⟩ := hou k true m e
    rcases (slArgs_get hss).2 k _ e with ⟨d, _, h⟩ | ⟨i, p, n, h1, h2, h3⟩ | ⟨i, d, _, _, h⟩
    · cases h
    · obtain ⟨v, hv', r⟩ := rv.get h1
      rw [hv] at hv'; cases hv'
      exact ⟨k, i, p, n, m', h1, h2, r, hm'⟩
    · cases h
  have awr : ∀ a, AW vs ss a → Wr env σ a := fun a h => let ⟨_, i, p, m, _, _, h2, h3, _⟩ := aw a h; ⟨i, p, m, h2, h3⟩
  have x' : Ext (Wr env σ) H H' := x.mono awr
  have wr : ∀ a, Wr (updO env l outs) σ a → Wr env σ a := by
    rintro a ⟨j, p, m, e, s⟩
    rcases updO_get e with ⟨h1, _⟩ | ⟨p', n, n', k, h1, h2, _, _⟩
    · exact ⟨j, p, m, h1, s⟩
    · exact ⟨j, p', n, h1, s⟩
  have ow : ∀ a o, H a = some o → ¬ Ow F T env σ a → ¬ Ow F T' (updO env l outs) σ a := fun a o e n z => by
    rcases z with z | z | z
    · exact n (.inl z)
    · rcases hT2 a z with z | z
      · exact n (.inr (.inl z))
      · rw [e] at z; cases z
    · exact n (.inr (.inr (wr a z)))
  have kk : ∀ a o, ¬ Ow F T env σ a → H a = some o → H' a = some o := fun a o n e => x'.same a o e fun z => n (.inr (.inr z))
  refine ⟨⟨by rw [updO_len]; exact S.len, ?_, ?_, ?_, ?_, S.dom, S.sub, hT3, ?_⟩, x', wr⟩
  · intro i d e
    rcases updO_get e with ⟨h1, _⟩ | ⟨p', n, n', k, _, h2, _, _⟩
    · obtain ⟨v, s, r⟩ := S.shr i d h1
      exact ⟨v, s, r.tr ow kk⟩
    · cases h2
  · intro i p m e
    rcases updO_get e with ⟨h1, h2⟩ | ⟨p', n, n', k, h1, h2, h3, h4⟩
    · obtain ⟨a, s, mu, c⟩ := S.own i p m h1
      refine ⟨a, s, mu.tr ow kk (fun o q => x.same a o q fun z => ?_), c⟩
      obtain ⟨k, j, p2, m2, m', g1, g2, g3, g4⟩ := aw a z
      have ij := S.dis i j _ _ _ _ _ h1 g2 s g3
      subst ij
      obtain ⟨d, hd⟩ := h2 k m' g1 g4
      cases hd
    · cases h2
      obtain ⟨a, s, mu, c⟩ := S.own i _ n h1
      obtain ⟨a', hv, mu'⟩ := ho k _ h4
      obtain ⟨v, hv', r⟩ := rv.get h3
      rw [hv] at hv'; cases hv'
      rw [show σ[i]? = some (some (V.ref a')) from r] at s; cases s
      exact ⟨_, r, mu'.tr (fun b _ _ n z => n (by
        rcases z with z | z | z
        · exact .inl (.inl z)
        · exact .inr z
        · exact .inl (.inr (.inr (wr b z))))) (fun _ _ _ e => e) (fun _ e => e), c⟩
  · intro i j p q m n a e1 e2 s1 s2
    have g1 : ∃ p m, env[i]? = some (some (Sl.own p m)) := by
      rcases updO_get e1 with ⟨h, _⟩ | ⟨_, _, _, _, h, _⟩
      · exact ⟨_, _, h⟩
      · exact ⟨_, _, h⟩
    have g2 : ∃ p m, env[j]? = some (some (Sl.own p m)) := by
      rcases updO_get e2 with ⟨h, _⟩ | ⟨_, _, _, _, h, _⟩
      · exact ⟨_, _, h⟩
      · exact ⟨_, _, h⟩
    obtain ⟨_, _, g1⟩ := g1
    obtain ⟨_, _, g2⟩ := g2
    exact S.dis i j _ _ _ _ a g1 g2 s1 s2
  · refine ⟨fun a o q n => ?_, fun a q => x.live a (S.ext.live a q)⟩
    refine x.same a o (S.ext.same a o q n) fun z => ?_
    obtain ⟨k, j, p2, m2, m', g1, g2, g3, g4⟩ := aw a z
    obtain ⟨b, s, mu, c⟩ := S.own j p2 m2 g2
    rw [g3] at s; cases s
    cases p2 with
    | true => exact n (by simpa using c.1)
    | false => simp at c; rw [c] at q; cases q
  · intro a q z
    rcases hT2 a q with q | q
    · exact S.tno a q (wr a z)
    · exact S.wlive (wr a z) q
/-- f(..) whose promise is by data; pm: how positional and further arguments come to the parameters -/
theorem call_run {M : FnS} {l : List R} {vs : List V} {ss : List Sl} {z : Ret × List (Option Mu)} {k : Nat} {Q : VK} {E : XK} (S : StOk K F T H env σ) (rv : RvAll K F T H env σ vs l) (hs : slArgs env l = some ss) (nd : (ownSlots env l).Nodup) (hm : M ss = some z)
    (hk : l.length = k) (hou : ∀ (i : Nat) (p : Bool) (m : Mu), ss[i]? = some (Sl.own p m) → ∃ m', z.2[i]? = some (some m'))
    (q : ∀ v H', Ext (AW vs ss) H H' → CEnd K (Ow F T env σ) H H' vs z.2 v z.1 → Q v H') : spD K k M vs H Q E := by
  have ha := slArgs_ok S rv hs
  refine ⟨Ow F T env σ, ss, z.1, z.2, by rw [ha.length, (slArgs_get hs).1, hk], fun a h => S.olive h, ha, ?_, hm, hou, q⟩
  intro i j m n a e1 e2 s1 s2
  have aux : ∀ {i : Nat} {m : Mu}, ss[i]? = some (Sl.own true m) → vs[i]? = some (V.ref a) → ∃ (k : Nat) (p : Bool) (m : Mu), l[i]? = some (R.slot k) ∧ env[k]? = some (some (Sl.own p m)) ∧ σ[k]? = some (some (V.ref a)) := by
    intro i m e hv
    rcases (slArgs_get hs).2 i _ e with ⟨d, _, h⟩ | ⟨k, p, n, h1, h2, _⟩ | ⟨_, d, _, _, h⟩
    · cases h
    · obtain ⟨v, hv', r⟩ := rv.get h1
      rw [hv] at hv'; cases hv'
      exact ⟨k, p, n, h1, h2, r⟩
    · cases h
  obtain ⟨k1, p1, m1, a1, b1, c1⟩ := aux e1 s1
  obtain ⟨k2, p2, m2, a2, b2, c2⟩ := aux e2 s2
  have := S.dis k1 k2 _ _ _ _ _ b1 b2 c1 c2
  subst this
  exact ownSlots_dis (p := p1) (q := p1) (m := m1) (n := m1) nd a1 a2 b1
def ouOk : List Sl → List (Option Mu) → Bool
  | .own _ _ :: ss, some _ :: os => ouOk ss os
  | .own _ _ :: _, _ => false
  | .shr _ :: ss, _ :: os => ouOk ss os
  | .shr _ :: ss, [] => ouOk ss []
  | [], _ => true
theorem ouOk_get : ∀ {ss : List Sl} {os : List (Option Mu)}, ouOk ss os = true → ∀ (i : Nat) (p : Bool) (m : Mu), ss[i]? = some (Sl.own p m) → ∃ m', os[i]? = some (some m')
  | .own _ _ :: ss, some m' :: os, h, i, p, m, e => by
    cases i with
    | zero => exact ⟨m', rfl⟩
    | succ i => simpa using ouOk_get (ss := ss) (os := os) (by simpa [ouOk] using h) i p m (by simpa using e)
  | .own _ _ :: _, none :: _, h, _, _, _, _ => by simp [ouOk] at h
  | .own _ _ :: _, [], h, _, _, _, _ => by simp [ouOk] at h
  | .shr _ :: ss, _ :: os, h, i, p, m, e => by
    cases i with
    | zero => simp at e
    | succ i => simpa using ouOk_get (ss := ss) (os := os) (by simpa [ouOk] using h) i p m (by simpa using e)
  | .shr _ :: ss, [], h, i, p, m, e => by
    cases i with
    | zero => simp at e
    | succ i =>
      obtain ⟨m', hm⟩ := ouOk_get (ss := ss) (os := []) (by simpa [ouOk] using h) i p m (by simpa using e)
      simp at hm
  | [], _, _, i, p, m, e => by simp at e
def eCall (M : FnS) (fl : EvA) : EvE := fun env => (fl env).bind fun q => (slArgs q.2 q.1).bind fun ss => if (ownSlots q.2 q.1).Nodup then (M ss).bind fun z => if ouOk ss z.2 = true then
    (match z.1 with | .val d => some (.val d, updO q.2 q.1 z.2) | .new m => some (.val m.toD, updO q.2 q.1 z.2)) else none else none
def eCallM (M : FnS) (fl : EvA) : EvM := fun env => (fl env).bind fun q => (slArgs q.2 q.1).bind fun ss => if (ownSlots q.2 q.1).Nodup then (M ss).bind fun z => if ouOk ss z.2 = true then
    (match z.1 with | .val d => none | .new m => some (m, updO q.2 q.1 z.2)) else none else none
theorem ie_call {M : FnS} {k : Nat} {E : XK} {t : TA} {fl : EvA} (hl : IA K t fl) (hk : ∀ env l env', fl env = some (l, env') → l.length = k) : IE K (tCall (spD K k M) [] E t) (eCall M fl) := by
  intro F T env σ H r env' S e Q q
  simp only [eCall, Option.bind_eq_some_iff] at e
  obtain ⟨⟨l, e1⟩, h1, ss, h2, h3⟩ := e
  split at h3
  · rename_i nd
    simp only [Option.bind_eq_some_iff] at h3
    obtain ⟨⟨r0, outs⟩, h4, h5⟩ := h3
    split at h5
    · rename_i hou
      have hou' := ouOk_get hou
      refine hl F T env σ H l e1 S h1 _ fun vs H1 S1 s1 rv => ?_
      simp only [List.append_nil]
      refine call_run S1 rv h2 nd h4 (hk _ _ _ h1) hou' fun v H' x c => ?_
      cases r0 with
      | val d =>
        obtain ⟨rd, oo⟩ := c
        simp only [Option.some.injEq, Prod.mk.injEq] at h5
        obtain ⟨rfl, rfl⟩ := h5
        obtain ⟨S2, s2⟩ := call_ok S1 rv h2 hou' x (T' := T) (fun _ h => h) (fun _ h => .inl h) (fun a h => x.live a (S1.tdm a h)) (fun i m hm => let ⟨a, h, mu⟩ := oo i m hm; ⟨a, h, mu.tr (fun b _ _ n z => n (z.elim id fun z => .inr (.inl z))) (fun _ _ _ e => e) fun _ e => e⟩)
        exact q v H' S2 (s1.trans s2) (rd.anti fun b h => h.imp id (.imp id (s2.wr b)))
      | new m =>
        obtain ⟨p, rfl, np, mu, oo⟩ := c
        simp only [Option.some.injEq, Prod.mk.injEq] at h5
        obtain ⟨rfl, rfl⟩ := h5
        obtain ⟨S2, s2⟩ := call_ok S1 rv h2 hou' x (T' := T) (fun _ h => h) (fun _ h => .inl h) (fun a h => x.live a (S1.tdm a h)) (fun i m hm => let ⟨a, h, mu⟩ := oo i m hm; ⟨a, h, mu.tr (fun b _ _ n z => n (.inl (z.elim id fun z => .inr (.inl z)))) (fun _ _ _ e => e) fun _ e => e⟩)
        have np' : ¬ Ow F T (updO e1 l outs) σ p := fun z => S1.fresh np (z.imp id (.imp id (s2.wr p)))
        exact q _ H' S2 (s1.trans s2) ((mu.tr (fun b _ _ n z => n (.inl (z.imp id (.imp id (s2.wr b))))) (fun _ _ _ e => e) fun _ e => e).rp np')
    · cases h5
  · cases h3
theorem im_call {M : FnS} {k : Nat} {E : XK} {t : TA} {fl : EvA} (hl : IA K t fl) (hk : ∀ env l env', fl env = some (l, env') → l.length = k) : IM K (tCall (spD K k M) [] E t) (eCallM M fl) := by
  intro F T env σ H m env' S e Q q
  simp only [eCallM, Option.bind_eq_some_iff] at e
  obtain ⟨⟨l, e1⟩, h1, ss, h2, h3⟩ := e
  split at h3
  · rename_i nd
    simp only [Option.bind_eq_some_iff] at h3
    obtain ⟨⟨r0, outs⟩, h4, h5⟩ := h3
    split at h5
    · rename_i hou
      have hou' := ouOk_get hou
      refine hl F T env σ H l e1 S h1 _ fun vs H1 S1 s1 rv => ?_
      simp only [List.append_nil]
      refine call_run S1 rv h2 nd h4 (hk _ _ _ h1) hou' fun v H' x c => ?_
      cases r0 with
      | val d => cases h5
      | new m0 =>
        obtain ⟨p, rfl, np, mu, oo⟩ := c
        simp only [Option.some.injEq, Prod.mk.injEq] at h5
        obtain ⟨rfl, rfl⟩ := h5
        have np0 : H p = none := by
          cases h : H p with
          | none => rfl
          | some o => exact absurd np (s1.ext.live p (by rw [h]; simp))
        obtain ⟨S2, s2⟩ := call_ok S1 rv h2 hou' x (T' := fun a => T a ∨ a = p) (fun _ h => .inl h) (fun a h => h.imp id fun h => by subst h; exact np) (fun a h => h.elim (fun h => x.live a (S1.tdm a h)) fun h => by subst h; exact mu.alive)
          (fun i m hm => let ⟨a, h, mu⟩ := oo i m hm; ⟨a, h, mu.tr (fun b _ _ n z => n (by
            rcases z with z | z | z
            · exact .inl z
            · exact .inl (.inr (.inl z))
            · exact .inr z)) (fun _ _ _ e => e) fun _ e => e⟩)
        exact q p H' np0 S2 (s1.trans s2) (mu.tr (fun b _ _ n z => n (by
            rcases z with z | (z | z) | z
            · exact .inl (.inl z)
            · exact .inl (.inr (.inl z))
            · exact .inr z
            · exact .inl (.inr (.inr (s2.wr b z))))) (fun _ _ _ e => e) fun _ e => e)
    · cases h5
  · cases h3
end
end GD

namespace GD
open PySem PySem.Spec PyProof.Rows L2
/-! ### what is done with data -/
section
variable {K : PySem.W.Frag}
theorem Rp.upd {O : Addr → Prop} {H : Hp} {p : Addr} {o : HO} (n : H p = none) {v : V} {d : D} (r : Rp K O H v d) : Rp K O (L2.upd H p o) v d := r.tr (fun _ _ _ n => n) fun a u _ e => by rw [upd_ne (ne_of_none e n)]; exact e
theorem RpAll.upd {O : Addr → Prop} {H : Hp} {p : Addr} {o : HO} (n : H p = none) {v : List V} {d : List D} (r : RpAll K O H v d) : RpAll K O (L2.upd H p o) v d := r.tr (fun _ _ _ n => n) fun a u _ e => by rw [upd_ne (ne_of_none e n)]; exact e
theorem RpAll.updp {O : Addr → Prop} {H : Hp} {p : Addr} {o : HO} (n : H p = none) {v : List V} {d : List D} (r : RpAll K O H v d) : RpAll K (fun a => O a ∨ a = p) (L2.upd H p o) v d := r.tr (fun a u e n2 z => z.elim n2 fun z => ne_of_none e n z) fun a u _ e => by rw [upd_ne (ne_of_none e n)]; exact e
theorem new_tup {O : Addr → Prop} {H : Hp} {p : Addr} {vs : List V} {ds : List D} (hO : ∀ a, O a → H a ≠ none) (n : H p = none) (r : RpAll K O H vs ds) : Rp K O (L2.upd H p (.tup vs)) (.ref p) (.tuple ds) :=
  .tup (.inl ⟨.inl upd_same, fun h => hO p h n⟩) (r.upd n)
theorem new_lst {O : Addr → Prop} {H : Hp} {p : Addr} {vs : List V} {ds : List D} (n : H p = none) (r : RpAll K O H vs ds) : MuAt K (fun a => O a ∨ a = p) (L2.upd H p (.lst vs)) p (.l ds) := ⟨vs, upd_same, r.updp n⟩
theorem ext_new {H : Hp} {p : Addr} {o : HO} (n : H p = none) : Ext (fun _ => False) H (upd H p o) := Ext.new n
theorem Rp.tupI {O : Addr → Prop} {H : Hp} {v : V} {ds : List D} (r : Rp K O H v (.tuple ds)) : ∃ a xs, v = .ref a ∧ SqT K H a xs ∧ RpAll K O H xs ds ∧ ((Rd H a (.tup xs) ∧ ¬ O a) ∨ KTp K a xs) := by
  cases r with
  | tup h r => exact ⟨_, _, rfl, h.imp (·.1) id, r, h⟩
theorem Rp.sc {O : Addr → Prop} {H : Hp} {v : V} {i : Int} (r : Rp K O H v (.int i)) : v = .int i := by cases r; rfl
theorem Rp.scS {O : Addr → Prop} {H : Hp} {v : V} {i : Str} (r : Rp K O H v (.str i)) : v = .str i := by cases r; rfl
theorem Rp.scB {O : Addr → Prop} {H : Hp} {v : V} {i : Bool} (r : Rp K O H v (.bool i)) : v = .bl i := by cases r; rfl
theorem Rp.scN {O : Addr → Prop} {H : Hp} {v : V} (r : Rp K O H v .none) : v = .non := by cases r; rfl
/-! ints -/
def dI (C : Int → Int → Bool) (g : Int → Int → D) : D → D → Option D
  | .int i, .int j => if C i j = true then some (g i j) else none
  | _, _ => none
theorem od_I {C : Int → Int → Prop} {c : Int → Int → Bool} {g : Int → Int → V} {gd : Int → Int → D} (hc : ∀ i j, c i j = true → C i j) (hg : ∀ O H i j, Rp K O H (g i j) (gd i j)) : OpD K (rI C g) (dI c gd) := by
  intro O H x y d e z hO l1 l2 hz Q q
  cases d with
  | int i =>
    cases e with
    | int j =>
      simp only [dI] at hz
      split at hz
      · rename_i h
        cases hz
        exact ⟨i, j, Rp.sc l1, Rp.sc l2, hc i j h, q _ H Ext.refl (hg _ _ i j)⟩
      · cases hz
    | _ => cases hz
  | _ => cases hz
theorem od_I0 {g : Int → Int → V} {gd : Int → Int → D} (hg : ∀ O H i j, Rp K O H (g i j) (gd i j)) : OpD K (rI0 g) (dI (fun _ _ => true) gd) := by
  intro O H x y d e z hO l1 l2 hz Q q
  cases d with
  | int i =>
    cases e with
    | int j =>
      simp only [dI, if_true] at hz
      cases hz
      exact ⟨i, j, Rp.sc l1, Rp.sc l2, q _ H Ext.refl (hg _ _ i j)⟩
    | _ => cases hz
  | _ => cases hz
def dSub : D → D → Option D := dI (fun _ _ => true) fun i j => .int (i - j)
def dMul : D → D → Option D := dI (fun i j => decide ((-(2 ^ 64) < i ∧ i < 2 ^ 64) ∨ (-(2 ^ 64) < j ∧ j < 2 ^ 64))) fun i j => .int (i * j)
def dMod : D → D → Option D := dI (fun _ j => decide (0 < j)) fun i j => .int (i % j)
def dDiv : D → D → Option D := dI (fun _ j => decide (0 < j ∧ j < 1073741824)) fun i j => .int (i / j)
def dPow : D → D → Option D := dI (fun i j => decide (0 ≤ j ∧ j ≤ 1000000 ∧ i.natAbs < 2 ^ 64)) fun i j => .int (i ^ j.toNat)
theorem od_sub : OpD K (rI0 fun i j => .int (i - j)) dSub := od_I0 fun _ _ _ _ => .int _
theorem od_mul : OpD K (rI CMul fun i j => .int (i * j)) dMul := od_I (C := CMul) (fun i j h => by unfold CMul; simpa using h) fun _ _ _ _ => .int _
theorem od_mod : OpD K (rI (fun _ j => 0 < j) fun i j => .int (i % j)) dMod := od_I (fun _ _ h => of_decide_eq_true h) fun _ _ _ _ => .int _
theorem od_div : OpD K (rI CDiv fun i j => .int (i / j)) dDiv := od_I (C := CDiv) (fun i j h => by unfold CDiv; simpa using h) fun _ _ _ _ => .int _
theorem od_pow : OpD K (rI CPow fun i j => .int (i ^ j.toNat)) dPow := od_I (C := CPow) (fun i j h => by unfold CPow; simpa using h) fun _ _ _ _ => .int _
def dLt : D → D → Option D := dI (fun _ _ => true) fun i j => .bool (decide (i < j))
def dLe : D → D → Option D := dI (fun _ _ => true) fun i j => .bool (decide (i ≤ j))
def dGt : D → D → Option D := dI (fun _ _ => true) fun i j => .bool (decide (j < i))
def dGe : D → D → Option D := dI (fun _ _ => true) fun i j => .bool (decide (j ≤ i))
theorem od_lt : OpD K (rI0 fun i j => .bl (decide (i < j))) dLt := od_I0 fun _ _ _ _ => .bl _
theorem od_le : OpD K (rI0 fun i j => .bl (decide (i ≤ j))) dLe := od_I0 fun _ _ _ _ => .bl _
theorem od_gt : OpD K (rI0 fun i j => .bl (decide (j < i))) dGt := od_I0 fun _ _ _ _ => .bl _
theorem od_ge : OpD K (rI0 fun i j => .bl (decide (j ≤ i))) dGe := od_I0 fun _ _ _ _ => .bl _
def dNeg : D → Option D
  | .int i => some (.int (-i))
  | _ => none
theorem ud_neg : UnD K (rU fun i => .int (-i)) dNeg := by
  intro O H x d z hO l hz Q q
  cases d with
  | int i => cases hz; exact ⟨i, Rp.sc l, q _ H Ext.refl (.int _)⟩
  | _ => cases hz
/-! + -/
def rAddA (K : PySem.W.Frag) : R2 := fun x y H Q => rI0 (fun i j => .int (i + j)) x y H Q ∨ (fun x y H Q => (∃ i j, x = .str i ∧ y = .str j ∧ i.length + j.length ≤ sizeLine ∧ Q (.str (i ++ j)) H) ∨ rCatA K x y H Q) x y H Q
theorem op_addA {X : Cx} : OpR X (binaryOp .Add) (rAddA X.K) := OpR.or op_add (OpR.or op_add_str op_catA)
def dAdd : D → D → Option D
  | .int i, .int j => some (.int (i + j))
  | .str a, .str b => if small (a.length + b.length) = true then some (.str (a ++ b)) else none
  | .tuple xs, .tuple ys => if small (xs.length + ys.length) = true then some (.tuple (xs ++ ys)) else none
  | _, _ => none
theorem od_add : OpD K (rAddA K) dAdd := by
  intro O H x y d e z hO l1 l2 hz Q q
  cases d with
  | int i =>
    cases e with
    | int j => cases hz; exact .inl ⟨i, j, Rp.sc l1, Rp.sc l2, q _ H Ext.refl (.int _)⟩
    | _ => cases hz
  | str a =>
    cases e with
    | str b =>
      simp only [dAdd] at hz
      split at hz
      · rename_i h
        cases hz
        exact .inr (.inl ⟨a, b, Rp.scS l1, Rp.scS l2, small_le h, q _ H Ext.refl (.str _)⟩)
      · cases hz
    | _ => cases hz
  | tuple ds =>
    cases e with
    | tuple es =>
      simp only [dAdd] at hz
      split at hz
      · rename_i h
        cases hz
        obtain ⟨a, xs, rfl, s1, r1, c1⟩ := Rp.tupI l1
        obtain ⟨b, ys, rfl, s2, r2, c2⟩ := Rp.tupI l2
        refine .inr (.inr ⟨a, b, xs, ys, rfl, rfl, s1, s2, by rw [r1.length, r2.length]; exact small_le h, fun hx => ?_, fun hx hy => ?_, fun hx hy p np => ?_⟩)
        · subst hx
          have hd : ds = [] := List.eq_nil_of_length_eq_zero r1.length.symm
          subst hd
          exact q _ H Ext.refl (.tup c2 r2)
        · subst hy
          have hd : es = [] := List.eq_nil_of_length_eq_zero r2.length.symm
          subst hd
          rw [List.append_nil] at q
          exact q _ H Ext.refl (.tup c1 r1)
        · exact q _ _ (ext_new np) (new_tup hO np (r1.append r2))
      · cases hz
    | _ => cases hz
  | _ => cases hz
def dAddM : D → D → Option Mu
  | .list xs, .list ys => if small (xs.length + ys.length) = true then some (.l (xs ++ ys)) else none
  | _, _ => none
theorem om_add : OpM K rCat dAddM := by
  intro O H x y d e z hO l1 l2 hz Q q
  cases d with
  | list ds =>
    cases e with
    | list es =>
      simp only [dAddM] at hz
      split at hz
      · rename_i h
        cases hz
        obtain ⟨a, xs, rfl, s1, r1⟩ := l1
        obtain ⟨b, ys, rfl, s2, r2⟩ := l2
        exact ⟨a, b, xs, ys, rfl, rfl, s1, s2, by rw [r1.length, r2.length]; exact small_le h, fun p np => q p _ np (ext_new np) (new_lst np (r1.append r2))⟩
      · cases hz
    | _ => cases hz
  | _ => cases hz
/-! == -/
def sc : D → D → Bool
  | .none, .none => true
  | .none, .int _ => true
  | .int _, .none => true
  | .none, .bool _ => true
  | .bool _, .none => true
  | .none, .str _ => true
  | .str _, .none => true
  | .int _, .int _ => true
  | .bool _, .bool _ => true
  | .str _, .str _ => true
  | .int _, .str _ => true
  | .str _, .int _ => true
  | .bool _, .str _ => true
  | .str _, .bool _ => true
  | _, _ => false
def scEq : D → D → Bool
  | .none, .none => true
  | .int i, .int j => decide (i = j)
  | .bool i, .bool j => decide (i = j)
  | .str i, .str j => decide (i = j)
  | _, _ => false
def dEqB (d e : D) : Option Bool := if sc d e = true then some (scEq d e) else if (SeqAt.shaped d && SeqAt.shaped e) = true then some (PyData.eqv d e) else none
def dEq (d e : D) : Option D := (dEqB d e).map .bool
def dNe (d e : D) : Option D := (dEqB d e).map fun b => .bool (!b)
def rEqA (K : PySem.W.Frag) : R2 := fun x y H Q => rEq x y H Q ∨ rEqD K x y H Q
def rNeA (K : PySem.W.Frag) : R2 := fun x y H Q => rNe x y H Q ∨ rNeD K x y H Q
theorem op_eqA {X : Cx} (hu : X.A.units + 64 < cLine) : OpR X (compareOp .Eq) (rEqA X.K) := OpR.or op_eq (op_eqD hu)
theorem op_neA {X : Cx} (hu : X.A.units + 64 < cLine) : OpR X (compareOp .NotEq) (rNeA X.K) := OpR.or op_ne (op_neD hu)
theorem lv_sc {O : Addr → Prop} {H : Hp} {x y : V} {d e : D} (l1 : Lv K O H x d) (l2 : Lv K O H y e) (h : sc d e = true) : scal x y = true ∧ decide (x = y) = scEq d e := by
  cases d <;> cases e <;> first | (cases h; done) | skip
  all_goals
    cases (show Rp K O H x _ from l1)
    cases (show Rp K O H y _ from l2)
    refine ⟨rfl, ?_⟩
    simp [scEq]
theorem nodict_of {d : D} (h : SeqAt.shaped d = true) : d.hasDict = false := PyData.hasDict_of_canLay d (SeqAt.canLay_of_shaped h)
theorem od_eq : OpD K (rEqA K) dEq := by
  intro O H x y d e z hO l1 l2 hz Q q
  simp only [dEq, dEqB, Option.map_eq_some_iff] at hz
  obtain ⟨b, hb, rfl⟩ := hz
  split at hb
  · rename_i h
    cases hb
    obtain ⟨h1, h2⟩ := lv_sc l1 l2 h
    exact .inl ⟨h1, by rw [h2]; exact q _ H Ext.refl (.bl _)⟩
  · split at hb
    · rename_i h
      cases hb
      simp only [Bool.and_eq_true] at h
      exact .inr ⟨d, e, l1.dp (nodict_of h.1), l2.dp (nodict_of h.2), h.1, h.2, q _ H Ext.refl (.bl _)⟩
    · cases hb
theorem od_ne : OpD K (rNeA K) dNe := by
  intro O H x y d e z hO l1 l2 hz Q q
  simp only [dNe, dEqB, Option.map_eq_some_iff] at hz
  obtain ⟨b, hb, rfl⟩ := hz
  split at hb
  · rename_i h
    cases hb
    obtain ⟨h1, h2⟩ := lv_sc l1 l2 h
    exact .inl ⟨h1, by rw [h2]; exact q _ H Ext.refl (.bl _)⟩
  · split at hb
    · rename_i h
      cases hb
      simp only [Bool.and_eq_true] at h
      exact .inr ⟨d, e, l1.dp (nodict_of h.1), l2.dp (nodict_of h.2), h.1, h.2, q _ H Ext.refl (.bl _)⟩
    · cases hb
/-! in -/
def dInB : D → D → Option Bool
  | .str i, .str j => some (!(Builtin.Str.occurrences j i 0 j.length 1).isEmpty)
  | d, .list ds => if (SeqAt.shaped d && SeqAt.shaped (.list ds)) = true then some (ds.any fun z => PyData.eqv z d) else none
  | _, _ => none
def dIn (d e : D) : Option D := (dInB d e).map .bool
def dNotIn (d e : D) : Option D := (dInB d e).map fun b => .bool (!b)
def rInA (K : PySem.W.Frag) : R2 := fun x y H Q => (∃ i j, x = .str i ∧ y = .str j ∧ Q (.bl (!(Builtin.Str.occurrences j i 0 j.length 1).isEmpty)) H) ∨ rInD K x y H Q
def rNotInA (K : PySem.W.Frag) : R2 := fun x y H Q => (∃ i j, x = .str i ∧ y = .str j ∧ Q (.bl (!(!(Builtin.Str.occurrences j i 0 j.length 1).isEmpty))) H) ∨ rNotInD K x y H Q
theorem op_inA {X : Cx} (hu : X.A.units + 65 < cLine) : OpR X (compareOp .In) (rInA X.K) := OpR.or op_in_str (op_inD hu)
theorem op_notInA {X : Cx} (hu : X.A.units + 65 < cLine) : OpR X (compareOp .NotIn) (rNotInA X.K) := OpR.or op_notin_str (op_notInD hu)
theorem dInB_case {O : Addr → Prop} {H : Hp} {x y : V} {d e : D} {b : Bool} (l1 : Lv K O H x d) (l2 : Lv K O H y e) (h : dInB d e = some b) :
    (∃ i j, x = .str i ∧ y = .str j ∧ b = !(Builtin.Str.occurrences j i 0 j.length 1).isEmpty) ∨ ∃ ds, Dp K H x d ∧ Dp K H y (.list ds) ∧ SeqAt.shaped d = true ∧ SeqAt.shaped (.list ds) = true ∧ b = ds.any fun z => PyData.eqv z d := by
  cases e with
  | str j =>
    cases d with
    | str i => cases h; exact .inl ⟨i, j, Rp.scS l1, Rp.scS l2, rfl⟩
    | _ => cases h
  | list ds =>
    simp only [dInB] at h
    split at h
    · rename_i hs
      cases h
      simp only [Bool.and_eq_true] at hs
      exact .inr ⟨ds, l1.dp (nodict_of hs.1), l2.dp (nodict_of hs.2), hs.1, hs.2, rfl⟩
    · cases h
  | _ => cases d <;> cases h
theorem od_in : OpD K (rInA K) dIn := by
  intro O H x y d e z hO l1 l2 hz Q q
  simp only [dIn, Option.map_eq_some_iff] at hz
  obtain ⟨b, hb, rfl⟩ := hz
  rcases dInB_case l1 l2 hb with ⟨i, j, h1, h2, rfl⟩ | ⟨ds, h1, h2, h3, h4, rfl⟩
  · exact .inl ⟨i, j, h1, h2, q _ H Ext.refl (.bl _)⟩
  · exact .inr ⟨d, ds, h1, h2, h3, h4, q _ H Ext.refl (.bl _)⟩
theorem od_notIn : OpD K (rNotInA K) dNotIn := by
  intro O H x y d e z hO l1 l2 hz Q q
  simp only [dNotIn, Option.map_eq_some_iff] at hz
  obtain ⟨b, hb, rfl⟩ := hz
  rcases dInB_case l1 l2 hb with ⟨i, j, h1, h2, rfl⟩ | ⟨ds, h1, h2, h3, h4, rfl⟩
  · exact .inl ⟨i, j, h1, h2, q _ H Ext.refl (.bl _)⟩
  · exact .inr ⟨d, ds, h1, h2, h3, h4, q _ H Ext.refl (.bl _)⟩
/-! is None -/
def isN : D → Bool
  | .none => true
  | _ => false
def eIsN (fa : EvE) : EvE := fun env => (e1 fa env).map fun p => (.val (.bool (isN p.1)), p.2)
def eNotN (fa : EvE) : EvE := fun env => (e1 fa env).map fun p => (.val (.bool (!isN p.1)), p.2)
theorem lv_isN {O : Addr → Prop} {H : Hp} {x : V} {d : D} (l : Lv K O H x d) : decide (x = .non) = isN d := by
  cases d with
  | list ds => obtain ⟨a, xs, rfl, _⟩ := l; rfl
  | dict ds => rcases l with ⟨a, xs, _, rfl, _⟩ | ⟨a, _, _, _, _, _, _, rfl, _⟩ <;> rfl
  | _ => cases (show Rp K O H x _ from l) <;> rfl
theorem ie_isN {ta : TE} {fa : EvE} (ha : IE K ta fa) : IE K (tIsN ta) (eIsN fa) := by
  intro F T env σ H r env' S e Q q
  simp only [eIsN, Option.map_eq_some_iff] at e
  obtain ⟨⟨d, e1⟩, h1, h2⟩ := e
  cases h2
  refine i1 ha S h1 fun x H' S' st l => ?_
  show Q _ H'
  rw [lv_isN l]
  exact q _ H' S' st (.bl _)
theorem ie_notN {ta : TE} {fa : EvE} (ha : IE K ta fa) : IE K (tNotN ta) (eNotN fa) := by
  intro F T env σ H r env' S e Q q
  simp only [eNotN, Option.map_eq_some_iff] at e
  obtain ⟨⟨d, e1⟩, h1, h2⟩ := e
  cases h2
  refine i1 ha S h1 fun x H' S' st l => ?_
  show Q _ H'
  rw [lv_isN l]
  exact q _ H' S' st (.bl _)
/-! chains of comparisons -/
def eChain (g g' : D → D → Option D) (fa fb fc : EvE) : EvE := fun env => (fa env).bind fun p => (fb p.2).bind fun q => (rs q.2 p.1).bind fun d => (rs q.2 q.1).bind fun e => match g d e with
  | some (.bool true) => (fc q.2).bind fun w => (rs w.2 q.1).bind fun e' => (rs w.2 w.1).bind fun c => (g' e' c).map fun z => (.val z, w.2)
  | some (.bool false) => some (.val (.bool false), q.2)
  | _ => none
theorem ie_chain {r r' : R2} {g g' : D → D → Option D} {ta tb tc : TE} {fa fb fc : EvE} (hr : OpD K r g) (hr' : OpD K r' g') (ha : IE K ta fa) (hb : IE K tb fb) (hc : IE K tc fc) : IE K (tChain r r' ta tb tc) (eChain g g' fa fb fc) := by
  intro F T env σ H rr env' S e Q q
  simp only [eChain, Option.bind_eq_some_iff] at e
  obtain ⟨⟨r1, e1⟩, h1, ⟨r2, e2⟩, h2, d, h3, ee, h4, h5⟩ := e
  refine ha F T env σ H r1 e1 S h1 _ fun x H1 S1 s1 v1 => ?_
  refine hb F T e1 σ H1 r2 e2 S1 h2 _ fun y H2 S2 s2 v2 => ?_
  cases hg : g d ee with
  | none => rw [hg] at h5; cases h5
  | some z =>
    refine hr (Ow F T e2 σ) H2 x y d ee z (fun a h => S2.olive h) (rs_ok S2 (v1.stp s2) h3) (rs_ok S2 v2 h4) hg _ fun v H3 x3 rz => ?_
    rw [hg] at h5
    have S3 := S2.lay x3
    have s3 : Stp e2 σ H2 e2 H3 := Stp.lay x3
    cases z with
    | bool b =>
      refine ⟨b, Rp.scB rz, ?_⟩
      cases b with
      | false =>
        simp only [Option.some.injEq, Prod.mk.injEq] at h5
        obtain ⟨rfl, rfl⟩ := h5
        exact q _ H3 S3 ((s1.trans s2).trans s3) (.bl _)
      | true =>
        simp only [Option.bind_eq_some_iff, Option.map_eq_some_iff] at h5
        obtain ⟨⟨r4, e4⟩, h6, e', h7, c, h8, z, h9, h10⟩ := h5
        cases h10
        refine hc F T e2 σ H3 r4 _ S3 h6 _ fun w H4 S4 s4 v4 => ?_
        refine hr' (Ow F T _ σ) H4 y w e' c z (fun a h => S4.olive h) (rs_ok S4 ((v2.stp s3).stp s4) h7) (rs_ok S4 v4 h8) h9 Q fun v H5 x5 rz => ?_
        exact q v H5 (S4.lay x5) ((((s1.trans s2).trans s3).trans s4).trans (Stp.lay x5)) rz
    | _ => cases h5
end
end GD

namespace GD
open PySem PySem.Spec PyProof.Rows L2
section
variable {K : PySem.W.Frag}
/-! items -/
theorem atI_get {α : Type} {xs : List α} {i : Int} {x : α} (h : atI xs i = some x) : ∃ j : Nat, ixN xs.length i = some j ∧ xs[j]? = some x := by
  unfold atI at h
  simp only [Option.bind_eq_some_iff] at h
  obtain ⟨j, h1, h2⟩ := h
  exact ⟨j, h1, h2⟩
theorem RpAll.atI {O : Addr → Prop} {H : Hp} {vs : List V} {ds : List D} {i : Int} {d : D} (r : RpAll K O H vs ds) (h : L2.atI ds i = some d) : ∃ v, L2.atI vs i = some v ∧ Rp K O H v d := by
  obtain ⟨j, h1, h2⟩ := atI_get h
  obtain ⟨v, h3, h4⟩ := r.get h2
  refine ⟨v, ?_, h4⟩
  unfold L2.atI
  rw [r.length, h1]
  exact h3
def dIx : D → D → Option D
  | .list ds, .int i => atI ds i
  | .tuple ds, .int i => atI ds i
  | .str x, .int i => if small x.length = true then (atI x.cps.toList i).map fun c => .str ⟨#[c]⟩ else none
  | _, _ => none
theorem od_ix : OpD K (rIx K) dIx := by
  intro O H x y d e z hO l1 l2 hz Q q
  cases e with
  | int i =>
    cases d with
    | list ds =>
      obtain ⟨a, xs, rfl, h, r⟩ := l1
      obtain ⟨v, hv, rv⟩ := r.atI hz
      exact .inl ⟨a, xs, i, v, rfl, Rp.sc l2, .inl (.inl h), hv, q v H Ext.refl rv⟩
    | tuple ds =>
      obtain ⟨a, xs, rfl, h, r, _⟩ := Rp.tupI l1
      obtain ⟨v, hv, rv⟩ := r.atI hz
      exact .inr (.inl ⟨a, xs, i, v, rfl, Rp.sc l2, h, hv, q v H Ext.refl rv⟩)
    | str x =>
      simp only [dIx] at hz
      split at hz
      · rename_i hs
        simp only [Option.map_eq_some_iff] at hz
        obtain ⟨c, hc, rfl⟩ := hz
        exact .inr (.inr ⟨x, i, c, Rp.scS l1, Rp.sc l2, small_le hs, hc, q _ H Ext.refl (.str _)⟩)
      · cases hz
    | _ => cases hz
  | _ => cases d <;> cases hz
/-! slices -/
abbrev EvO := En → Option (Option Int × En)
def IO (K : PySem.W.Frag) (t : TO) (f : EvO) : Prop := ∀ F T env σ H o env', StOk K F T H env σ → f env = some (o, env') → ∀ Q : Option Int → Hp → Prop, (∀ H', StOk K F T H' env' σ → Stp env σ H env' H' → Q o H') → t σ H Q
def oNone : EvO := fun env => some (none, env)
def oSome (fe : EvE) : EvO := fun env => (e1 fe env).bind fun p => match p.1 with | .int i => some (some i, p.2) | _ => none
theorem io_none : IO K tNoPart oNone := fun F T env σ H o env' S e Q q => by cases e; exact q H S Stp.refl
theorem io_some {te : TE} {fe : EvE} (h : IE K te fe) : IO K (tPart te) (oSome fe) := by
  intro F T env σ H o env' S e Q q
  simp only [oSome, Option.bind_eq_some_iff] at e
  obtain ⟨⟨d, e1⟩, h1, h2⟩ := e
  refine i1 h S h1 fun x H' S' st l => ?_
  cases d with
  | int i =>
    simp only [Option.some.injEq, Prod.mk.injEq] at h2
    obtain ⟨rfl, rfl⟩ := h2
    exact ⟨i, Rp.sc l, q H' S' st⟩
  | _ => cases h2
def cutD (xs : List D) (lo hi : Option Int) : List D := (xs.drop (HT.sIx xs.length 0 lo)).take (HT.sIx xs.length xs.length hi - HT.sIx xs.length 0 lo)
theorem RpAll.cut {O : Addr → Prop} {H : Hp} {vs : List V} {ds : List D} {lo hi : Option Int} (r : RpAll K O H vs ds) : RpAll K O H (cutV vs lo hi) (cutD ds lo hi) := by
  unfold cutV cutD
  rw [r.length]
  exact (r.drop _).take _
abbrev R3 := V → Option Int → Option Int → Hp → VK → Prop
def SlD (K : PySem.W.Frag) (r : R3) (g : D → Option Int → Option Int → Option D) : Prop := ∀ (O : Addr → Prop) (H : Hp) x d lo hi z, (∀ a, O a → H a ≠ none) → Lv K O H x d → g d lo hi = some z → ∀ Q : VK, (∀ v H', Ext (fun _ => False) H H' → Rp K O H' v z → Q v H') → r x lo hi H Q
def SlM (K : PySem.W.Frag) (r : R3) (g : D → Option Int → Option Int → Option Mu) : Prop := ∀ (O : Addr → Prop) (H : Hp) x d lo hi z, (∀ a, O a → H a ≠ none) → Lv K O H x d → g d lo hi = some z → ∀ Q : VK,
  (∀ p H', H p = none → Ext (fun _ => False) H H' → MuAt K (fun a => O a ∨ a = p) H' p z → Q (.ref p) H') → r x lo hi H Q
def e3 (fe : EvE) (fl fh : EvO) : En → Option (D × Option Int × Option Int × En) := fun env => (fe env).bind fun p => (fl p.2).bind fun l => (fh l.2).bind fun h => (rs h.2 p.1).map fun d => (d, l.1, h.1, h.2)
theorem i3 {te : TE} {fe : EvE} {tl th : TO} {fl fh : EvO} (he : IE K te fe) (hl : IO K tl fl) (hh : IO K th fh) {F : Frm} {T : Addr → Prop} {env env' : En} {σ : L2.St} {H : Hp} {d : D} {lo hi : Option Int} (S : StOk K F T H env σ) (h : e3 fe fl fh env = some (d, lo, hi, env'))
    {R : V → Option Int → Option Int → Hp → Prop} (k : ∀ x H', StOk K F T H' env' σ → Stp env σ H env' H' → Lv K (Ow F T env' σ) H' x d → R x lo hi H') : te σ H fun x H1 => tl σ H1 fun l H2 => th σ H2 fun u H3 => R x l u H3 := by
  simp only [e3, Option.bind_eq_some_iff, Option.map_eq_some_iff] at h
  obtain ⟨⟨r1, e1⟩, h1, ⟨l, e2⟩, h2, ⟨u, e3⟩, h3, d', h4, h5⟩ := h
  cases h5
  refine he F T env σ H r1 e1 S h1 _ fun x H1 S1 s1 v1 => ?_
  refine hl F T e1 σ H1 _ e2 S1 h2 _ fun H2 S2 s2 => ?_
  refine hh F T e2 σ H2 _ _ S2 h3 _ fun H3 S3 s3 => ?_
  exact k x H3 S3 ((s1.trans s2).trans s3) (rs_ok S3 ((v1.stp s2).stp s3) h4)
def eSl (g : D → Option Int → Option Int → Option D) (fe : EvE) (fl fh : EvO) : EvE := fun env => (e3 fe fl fh env).bind fun p => (g p.1 p.2.1 p.2.2.1).map fun z => (.val z, p.2.2.2)
def eSlM (g : D → Option Int → Option Int → Option Mu) (fe : EvE) (fl fh : EvO) : EvM := fun env => (e3 fe fl fh env).bind fun p => (g p.1 p.2.1 p.2.2.1).map fun z => (z, p.2.2.2)
theorem ie_sl {r : R3} {g : D → Option Int → Option Int → Option D} {te : TE} {fe : EvE} {tl th : TO} {fl fh : EvO} (hr : SlD K r g) (he : IE K te fe) (hl : IO K tl fl) (hh : IO K th fh) : IE K (tSl r te tl th) (eSl g fe fl fh) := by
  intro F T env σ H r env' S e Q q
  simp only [eSl, Option.bind_eq_some_iff, Option.map_eq_some_iff] at e
  obtain ⟨⟨d, lo, hi, e1⟩, h1, z, h2, h3⟩ := e
  cases h3
  exact i3 he hl hh S h1 fun x H' S' st l => hr _ H' x d lo hi z (fun a h => S'.olive h) l h2 Q fun v H2 x2 rz => q v H2 (S'.lay x2) (st.trans (Stp.lay x2)) rz
theorem im_of {F : Frm} {T : Addr → Prop} {env env' : En} {σ : L2.St} {H H1 H2 : Hp} {p : Addr} {m : Mu} (S' : StOk K F T H1 env' σ) (st : Stp env σ H env' H1) (n : H1 p = none) (x : Ext (fun _ => False) H1 H2) (r : MuAt K (fun a => Ow F T env' σ a ∨ a = p) H2 p m) :
    H p = none ∧ StOk K F (fun a => T a ∨ a = p) H2 env' σ ∧ Stp env σ H env' H2 ∧ MuAt K (Ow F (fun a => T a ∨ a = p) env' σ) H2 p m := by
  refine ⟨?_, S'.lay1 n x r.alive, st.trans (Stp.lay x), r.tr (fun a _ _ n q => n (by
    rcases q with q | (q | q) | q
    · exact .inl (.inl q)
    · exact .inl (.inr (.inl q))
    · exact .inr q
    · exact .inl (.inr (.inr q)))) (fun _ _ _ e => e) fun _ e => e⟩
  cases h : H p with
  | none => rfl
  | some o => exact absurd n (st.ext.live p (by rw [h]; simp))
theorem im_sl {r : R3} {g : D → Option Int → Option Int → Option Mu} {te : TE} {fe : EvE} {tl th : TO} {fl fh : EvO} (hr : SlM K r g) (he : IE K te fe) (hl : IO K tl fl) (hh : IO K th fh) : IM K (tSl r te tl th) (eSlM g fe fl fh) := by
  intro F T env σ H m env' S e Q q
  simp only [eSlM, Option.bind_eq_some_iff, Option.map_eq_some_iff] at e
  obtain ⟨⟨d, lo, hi, e1⟩, h1, z, h2, h3⟩ := e
  cases h3
  exact i3 he hl hh S h1 fun x H' S' st l => hr _ H' x d lo hi m (fun a h => S'.olive h) l h2 Q fun p H2 n x2 rz => let ⟨a, b, c, d⟩ := im_of S' st n x2 rz; q p H2 a b c d
def dSlL : D → Option Int → Option Int → Option Mu
  | .list ds, lo, hi => some (.l (cutD ds lo hi))
  | _, _, _ => none
theorem sm_list : SlM K (rSlL K) dSlL := by
  intro O H x d lo hi z hO l hz Q q
  cases d with
  | list ds =>
    cases hz
    obtain ⟨a, xs, rfl, h, r⟩ := l
    exact ⟨a, xs, rfl, .inl (.inl h), fun p np => q p _ np (ext_new np) (new_lst np r.cut)⟩
  | _ => cases hz
def rSlB (K : PySem.W.Frag) : R3 := fun x lo hi H Q => rSlA K x lo hi H Q ∨ rSlS x lo hi H Q
theorem sl_both {X : Cx} : SlR X (rSlB X.K) := SlR.or sl_tupA sl_str
def dSl : D → Option Int → Option Int → Option D
  | .tuple ds, lo, hi => some (.tuple (cutD ds lo hi))
  | .str x, lo, hi => if small x.length = true then some (.str (cutS x lo hi)) else none
  | _, _, _ => none
theorem sd_both : SlD K (rSlB K) dSl := by
  intro O H x d lo hi z hO l hz Q q
  cases d with
  | tuple ds =>
    cases hz
    obtain ⟨a, xs, rfl, h, r, c⟩ := Rp.tupI l
    refine .inl ⟨a, xs, rfl, h, fun hw => ?_, fun _ p np => q _ _ (ext_new np) (new_tup hO np r.cut)⟩
    have e : cutD ds lo hi = ds := by
      unfold cutD
      rw [← r.length, hw.1, hw.2]
      simp [r.length]
    rw [e] at q
    exact q _ H Ext.refl (.tup c r)
  | str x =>
    simp only [dSl] at hz
    split at hz
    · rename_i hs
      cases hz
      exact .inr ⟨x, Rp.scS l, small_le hs, q _ H Ext.refl (.str _)⟩
    · cases hz
  | _ => cases hz
/-! calls of built-ins -/
theorem LvAll.one {O : Addr → Prop} {H : Hp} {vs : List V} {d : D} (h : LvAll K O H vs [d]) : ∃ v, vs = [v] ∧ Lv K O H v d := by
  cases vs with
  | nil => exact h.elim
  | cons v vs =>
    cases vs with
    | nil => exact ⟨v, rfl, h.1⟩
    | cons _ _ => exact h.2.elim
theorem LvAll.two {O : Addr → Prop} {H : Hp} {vs : List V} {d e : D} (h : LvAll K O H vs [d, e]) : ∃ v w, vs = [v, w] ∧ Lv K O H v d ∧ Lv K O H w e := by
  cases vs with
  | nil => exact h.elim
  | cons v vs => obtain ⟨w, rfl, h2⟩ := LvAll.one h.2; exact ⟨v, w, rfl, h.1, h2⟩
def rLenA (K : PySem.W.Frag) : List V → Hp → VK → Prop := fun xs H Q => (fun xs H Q => ∃ p ys, xs = [.ref p] ∧ (SqL K H p ys ∨ SqT K H p ys) ∧ Q (.int ys.length) H) xs H Q ∨ ((fun xs H Q => ∃ z, xs = [.str z] ∧ z.length ≤ sizeLine ∧ Q (.int z.length) H) xs H Q ∨ (fun xs H Q => ∃ a kvs, xs = [V.ref a] ∧ H a = some (.dK kvs) ∧ Q (.int kvs.length) H) xs H Q)
theorem call_lenA {X : Cx} : CallR X (.builtin "len") (rLenA X.K) := CallR.or call_len_seq (CallR.or call_len_str call_lenD)
def cLen : List D → Option D
  | [.list ds] => some (.int ds.length)
  | [.tuple ds] => some (.int ds.length)
  | [.str x] => if small x.length = true then some (.int x.length) else none
  | _ => none
theorem cd_len : CaD K (rLenA K) cLen := by
  intro O H xs ds z hO l hz Q q
  match ds, hz, l with
  | [.list ds], hz, l =>
    cases hz
    obtain ⟨v, rfl, a, xs, rfl, h, r⟩ := LvAll.one l
    exact .inl ⟨a, xs, rfl, .inl (.inl (.inl h)), by rw [r.length]; exact q _ H Ext.refl (.int _)⟩
  | [.tuple ds], hz, l =>
    cases hz
    obtain ⟨v, rfl, h⟩ := LvAll.one l
    obtain ⟨a, xs, rfl, h, r, c⟩ := Rp.tupI h
    exact .inl ⟨a, xs, rfl, .inr h, by rw [r.length]; exact q _ H Ext.refl (.int _)⟩
  | [.str x], hz, l =>
    simp only [cLen] at hz
    split at hz
    · rename_i hs
      cases hz
      obtain ⟨v, rfl, h⟩ := LvAll.one l
      cases Rp.scS h
      exact .inr (.inl ⟨x, rfl, small_le hs, q _ H Ext.refl (.int _)⟩)
    · cases hz
def cAbs : List D → Option D
  | [.int i] => some (.int (if i < 0 then -i else i))
  | _ => none
theorem cd_abs : CaD K (fun xs H Q => ∃ i, xs = [.int i] ∧ Q (.int (if i < 0 then -i else i)) H) cAbs := by
  intro O H xs ds z hO l hz Q q
  match ds, hz, l with
  | [.int i], hz, l =>
    cases hz
    obtain ⟨v, rfl, h⟩ := LvAll.one l
    cases Rp.sc h
    exact ⟨i, rfl, q _ H Ext.refl (.int _)⟩
def rIntA : List V → Hp → VK → Prop := fun xs H Q => (fun xs H Q => (∃ i, xs = [.int i] ∧ Q (.int i) H) ∨ ∃ k, xs = [.bl k] ∧ Q (.int (if k then 1 else 0)) H) xs H Q ∨ (fun xs H Q => ∃ a n, xs = [.str a] ∧ PySem.intText? a = some n ∧ a.length ≤ 640 ∧ Q (.int n) H) xs H Q
theorem call_intA {X : Cx} : CallR X (.type "int") rIntA := CallR.or call_int1 call_int_str
def cInt : List D → Option D
  | [.int i] => some (.int i)
  | [.bool k] => some (.int (if k then 1 else 0))
  | [.str x] => if x.length ≤ 640 then (PySem.intText? x).map .int else none
  | _ => none
theorem cd_int : CaD K rIntA cInt := by
  intro O H xs ds z hO l hz Q q
  match ds, hz, l with
  | [.int i], hz, l =>
    cases hz
    obtain ⟨v, rfl, h⟩ := LvAll.one l
    cases Rp.sc h
    exact .inl (.inl ⟨i, rfl, q _ H Ext.refl (.int _)⟩)
  | [.bool k], hz, l =>
    cases hz
    obtain ⟨v, rfl, h⟩ := LvAll.one l
    cases Rp.scB h
    exact .inl (.inr ⟨k, rfl, q _ H Ext.refl (.int _)⟩)
  | [.str x], hz, l =>
    simp only [cInt] at hz
    split at hz
    · rename_i hs
      simp only [Option.map_eq_some_iff] at hz
      obtain ⟨n, hn, rfl⟩ := hz
      obtain ⟨v, rfl, h⟩ := LvAll.one l
      cases Rp.scS h
      exact .inr ⟨x, n, rfl, hn, hs, q _ H Ext.refl (.int _)⟩
    · cases hz
def rStrA : List V → Hp → VK → Prop := fun xs H Q => (fun xs H Q => ∃ i, xs = [.int i] ∧ i.natAbs.log2 < 1920 ∧ Q (.str (toString i)) H) xs H Q ∨ (fun xs H Q => ∃ a, xs = [.str a] ∧ Q (.str a) H) xs H Q
theorem call_strA {X : Cx} : CallR X (.type "str") rStrA := CallR.or call_str_int SkE.call_str_str
def cStr : List D → Option D
  | [.int i] => if i.natAbs.log2 < 1920 then some (.str (toString i)) else none
  | [.str x] => some (.str x)
  | _ => none
theorem cd_str : CaD K rStrA cStr := by
  intro O H xs ds z hO l hz Q q
  match ds, hz, l with
  | [.int i], hz, l =>
    simp only [cStr] at hz
    split at hz
    · rename_i hs
      cases hz
      obtain ⟨v, rfl, h⟩ := LvAll.one l
      cases Rp.sc h
      exact .inl ⟨i, rfl, hs, q _ H Ext.refl (.str _)⟩
    · cases hz
  | [.str x], hz, l =>
    cases hz
    obtain ⟨v, rfl, h⟩ := LvAll.one l
    cases Rp.scS h
    exact .inr ⟨x, rfl, q _ H Ext.refl (.str _)⟩
def cList : List D → Option Mu
  | [.list ds] => some (.l ds)
  | [.tuple ds] => some (.l ds)
  | _ => none
theorem cm_list : CaM K (fun xs H Q => ∃ p ys, xs = [.ref p] ∧ (SqL K H p ys ∨ SqT K H p ys) ∧ ∀ l, H l = none → Q (.ref l) (upd H l (.lst ys))) cList := by
  intro O H xs ds z hO l hz Q q
  match ds, hz, l with
  | [.list ds], hz, l =>
    cases hz
    obtain ⟨v, rfl, a, xs, rfl, h, r⟩ := LvAll.one l
    exact ⟨a, xs, rfl, .inl (.inl (.inl h)), fun p np => q p _ np (ext_new np) (new_lst np r)⟩
  | [.tuple ds], hz, l =>
    cases hz
    obtain ⟨v, rfl, h⟩ := LvAll.one l
    obtain ⟨a, xs, rfl, h, r, c⟩ := Rp.tupI h
    exact ⟨a, xs, rfl, .inr h, fun p np => q p _ np (ext_new np) (new_lst np r)⟩
def cTuple : List D → Option D
  | [.list ds] => some (.tuple ds)
  | [.tuple ds] => some (.tuple ds)
  | _ => none
theorem cd_tuple : CaD K (fun xs H Q => ∃ p ys, xs = [.ref p] ∧ ((SqL K H p ys ∧ ∀ l, H l = none → Q (.ref l) (upd H l (.tup ys))) ∨ (SqT K H p ys ∧ Q (.ref p) H))) cTuple := by
  intro O H xs ds z hO l hz Q q
  match ds, hz, l with
  | [.list ds], hz, l =>
    cases hz
    obtain ⟨v, rfl, a, xs, rfl, h, r⟩ := LvAll.one l
    exact ⟨a, xs, rfl, .inl ⟨.inl (.inl h), fun p np => q _ _ (ext_new np) (new_tup hO np r)⟩⟩
  | [.tuple ds], hz, l =>
    cases hz
    obtain ⟨v, rfl, h⟩ := LvAll.one l
    obtain ⟨a, xs, rfl, h, r, c⟩ := Rp.tupI h
    exact ⟨a, xs, rfl, .inr ⟨h, q _ H Ext.refl (.tup c r)⟩⟩
def boolsOf : List D → Option (List Bool)
  | [] => some []
  | .bool b :: l => (boolsOf l).map fun bs => b :: bs
  | _ => none
theorem boolsOf_ok {O : Addr → Prop} {H : Hp} : ∀ {vs : List V} {ds : List D} {bs : List Bool}, RpAll K O H vs ds → boolsOf ds = some bs → vs = bs.map V.bl
  | _, _, bs, .nil, h => by simp [boolsOf] at h; subst h; rfl
  | _, d :: ds, bs, .cons r t, h => by
    cases d with
    | bool b =>
      simp only [boolsOf, Option.map_eq_some_iff] at h
      obtain ⟨l, h, rfl⟩ := h
      cases Rp.scB r
      rw [List.map_cons, ← boolsOf_ok t h]
    | _ => simp [boolsOf] at h
def cAll : List D → Option D
  | [.list ds] => (boolsOf ds).map fun bs => .bool (bs.all id)
  | _ => none
def cAny : List D → Option D
  | [.list ds] => (boolsOf ds).map fun bs => .bool (bs.any id)
  | _ => none
theorem cd_all : CaD K (rAll K) cAll := by
  intro O H xs ds z hO l hz Q q
  match ds, hz, l with
  | [.list ds], hz, l =>
    simp only [cAll, Option.map_eq_some_iff] at hz
    obtain ⟨bs, hb, rfl⟩ := hz
    obtain ⟨v, rfl, a, xs, rfl, h, r⟩ := LvAll.one l
    have e := boolsOf_ok r hb
    subst e
    exact ⟨a, bs, rfl, .inl (.inl h), q _ H Ext.refl (.bl _)⟩
theorem cd_any : CaD K (rAny K) cAny := by
  intro O H xs ds z hO l hz Q q
  match ds, hz, l with
  | [.list ds], hz, l =>
    simp only [cAny, Option.map_eq_some_iff] at hz
    obtain ⟨bs, hb, rfl⟩ := hz
    obtain ⟨v, rfl, a, xs, rfl, h, r⟩ := LvAll.one l
    have e := boolsOf_ok r hb
    subst e
    exact ⟨a, bs, rfl, .inl (.inl h), q _ H Ext.refl (.bl _)⟩
/-! repr -/
def okShow (d : D) : Bool := d.canLay0 && decide (d.depth ≤ 60) && d.showable && d.leavesShort 200 && decide (d.bulk ≤ 60000)
def rRepr (K : PySem.W.Frag) : List V → Hp → VK → Prop := fun xs H Q => ∃ x d, xs = [x] ∧ Dp K H x d ∧ okShow d = true ∧ Q (.str d.shown) H
theorem call_repr {X : Cx} (hg : X.A.guards = some []) (hu : X.A.units + 64 < cLine) : CallR X (.builtin "repr") (rRepr X.K) := by
  intro pins s σ H xs us Q I rr h
  obtain ⟨x, d, rfl, hd, ok, q⟩ := h
  cases rr with
  | @cons _ u _ _ rx rt =>
    cases rt
    simp only [okShow, Bool.and_eq_true, decide_eq_true_eq] at ok
    obtain ⟨⟨⟨⟨o1, o2⟩, o3⟩, o4⟩, o5⟩ := ok
    have nd := PyData.hasDict_of_canLay d o1
    have hz : d.shown.length ≤ sizeLine := by
      have := PyData.shown_le_bulk 200 (by decide) d o4
      have h2 : (200 + 2) * d.bulk ≤ 202 * 60000 := Nat.mul_le_mul_left _ o5
      have h3 : (12120200 : Nat) ≤ sizeLine := by decide
      omega
    obtain ⟨as, r⟩ := Dp.reads I d x u hd rx
    cases hd with
    | non => cases rx; exact PySem.P.repr_of_none ⟨.str _, H, I.tok _, ⟨_, rfl⟩, q⟩
    | bl b => cases rx; exact PySem.P.repr_of_bool ⟨.str _, H, I.tok _, ⟨_, rfl⟩, by cases b <;> exact q⟩
    | int i =>
      obtain ⟨t, rfl⟩ := rx
      exact PySem.P.repr_of_int (by simpa [PyData.showable] using o3) ⟨.str _, H, I.tok _, ⟨_, rfl⟩, q⟩
    | str y =>
      obtain ⟨t, rfl⟩ := rx
      exact PySem.P.repr_of_str ⟨.str _, H, I.tok _, ⟨_, rfl⟩, q⟩ hz
    | lst hs ha =>
      cases rx
      exact repr_of_reads' r o3 (fun h => by rw [nd] at h; cases h) hg (by omega) (fun _ _ e => e) (fun h' t tk hk => ⟨.str _, H, I.kept (t' := tk) hk, ⟨t, rfl⟩, q⟩) hz
    | tup hs ha =>
      cases rx
      exact repr_of_reads' r o3 (fun h => by rw [nd] at h; cases h) hg (by omega) (fun _ _ e => e) (fun h' t tk hk => ⟨.str _, H, I.kept (t' := tk) hk, ⟨t, rfl⟩, q⟩) hz
def cRepr : List D → Option D
  | [d] => if okShow d = true then some (.str d.shown) else none
  | _ => none
theorem cd_repr : CaD K (rRepr K) cRepr := by
  intro O H xs ds z hO l hz Q q
  match ds, hz, l with
  | [d], hz, l =>
    simp only [cRepr] at hz
    split at hz
    · rename_i hs
      cases hz
      obtain ⟨v, rfl, h⟩ := LvAll.one l
      have hs' := hs
      simp only [okShow, Bool.and_eq_true] at hs'
      exact ⟨v, d, rfl, h.dp (PyData.hasDict_of_canLay d hs'.1.1.1.1), hs, q _ H Ext.refl (.str _)⟩
    · cases hz
/-! isinstance(x, a built-in type) -/
def tyName : D → String
  | .none => "NoneType"
  | .bool _ => "bool"
  | .int _ => "int"
  | .str _ => "str"
  | .list _ => "list"
  | .tuple _ => "tuple"
  | .dict _ => "dict"
def eIsi (T : String) (k : D → Option Bool) (fe : EvE) : EvE := fun env => (e1 fe env).bind fun p => (k p.1).map fun b => (.val (.bool b), p.2)
theorem exc_no {nm f : Str} {d : D} (h : isExc (excD nm f d) = false) : False := by
  unfold excD isExc at h; cases h
theorem lv_ty {O : Addr → Prop} {H : Hp} {x : V} {d : D} (hx : isExc d = false) (l : Lv K O H x d) : TyX K H x (.type (tyName d)) := by
  cases d with
  | none => cases (show Rp K O H x _ from l); exact .base .non
  | bool b => cases (show Rp K O H x _ from l); exact .base (.bl b)
  | int i => cases (show Rp K O H x _ from l); exact .base (.int i)
  | str y => cases (show Rp K O H x _ from l); exact .base (.str y)
  | list ds => obtain ⟨a, xs, rfl, h, _⟩ := l; exact .base (.lst h)
  | tuple ds =>
    obtain ⟨a, xs, rfl, h, _⟩ := Rp.tupI l
    rcases h with (h | ⟨o, h⟩) | ⟨o, its, n, h1, h2, _⟩
    · exact .base (.tup h)
    · exact .fTuple h
    · exact .kTuple h1 h2
  | dict es =>
    rcases l with ⟨a, xs, _, rfl, h, _⟩ | ⟨_, _, _, _, _, _, _, _, _, _, _, _, e⟩
    rotate_left
    · rw [e] at hx
      exact (exc_no hx).elim
    rcases h with h | ⟨o, h⟩
    · exact .base (.dK h)
    · exact .fDict h
theorem ie_isi {T : String} {te : TE} {fe : EvE} {k : D → Option Bool} (hk : ∀ d b, k d = some b → isExc d = false ∧ PySem.W.kitOne K (.type (tyName d)) (.type T) = some b) (he : IE K te fe) : IE K (tCB (rIsi K) (tCons te (tCons (tC (.ty T)) tNil))) (eIsi T k fe) := by
  intro F T' env σ H r env' S e Q q
  simp only [eIsi, Option.bind_eq_some_iff, Option.map_eq_some_iff] at e
  obtain ⟨⟨d, e1⟩, h1, b, h2, h3⟩ := e
  cases h3
  exact i1 he S h1 fun x H' S' st l => ⟨x, .ty T, .type (tyName d), .type T, b, rfl, .ty T, lv_ty (hk d b h2).1 l, (hk d b h2).2, q _ H' S' st (.bl _)⟩
/-! methods of values -/
def tyOk (T : String) : D → Bool
  | .str _ => T == "str"
  | .int _ => T == "int"
  | .list _ => T == "list"
  | _ => false
abbrev RM := V → List V → Hp → VK → Prop
def BmD (K : PySem.W.Frag) (r : RM) (g : D → List D → Option D) : Prop := ∀ (O : Addr → Prop) (H : Hp) x d vs ds z, (∀ a, O a → H a ≠ none) → Lv K O H x d → LvAll K O H vs ds → g d ds = some z → ∀ Q : VK, (∀ v H', Ext (fun _ => False) H H' → Rp K O H' v z → Q v H') → r x vs H Q
def BmM (K : PySem.W.Frag) (r : RM) (g : D → List D → Option Mu) : Prop := ∀ (O : Addr → Prop) (H : Hp) x d vs ds z, (∀ a, O a → H a ≠ none) → Lv K O H x d → LvAll K O H vs ds → g d ds = some z → ∀ Q : VK,
  (∀ p H', H p = none → Ext (fun _ => False) H H' → MuAt K (fun a => O a ∨ a = p) H' p z → Q (.ref p) H') → r x vs H Q
def eB (Ty : String) (fe : EvE) (fl : EvA) : En → Option (D × List D × En) := fun env => (fe env).bind fun p => (rs p.2 p.1).bind fun d0 => if tyOk Ty d0 = true then (fl p.2).bind fun q => (rs q.2 p.1).bind fun d => (rsA q.2 q.1).map fun ds => (d, ds, q.2) else none
theorem tyOk_ok {O : Addr → Prop} {H : Hp} {x : V} {d : D} {Ty : String} (h : tyOk Ty d = true) (l : Lv K O H x d) : tyV K Ty x H := by
  cases d with
  | str y => cases Rp.scS l; exact (show Ty = "str" by simpa [tyOk] using h)
  | int y => cases Rp.sc l; exact (show Ty = "int" by simpa [tyOk] using h)
  | list ds => obtain ⟨a, xs, rfl, e, _⟩ := l; exact .inl ⟨by simpa [tyOk] using h, xs, .inl (.inl e)⟩
  | _ => cases h
theorem ib {Ty : String} {te : TE} {fe : EvE} {tl : TA} {fl : EvA} {r : RM} (he : IE K te fe) (hl : IA K tl fl) {F : Frm} {T : Addr → Prop} {env env' : En} {σ : L2.St} {H : Hp} {d : D} {ds : List D} (S : StOk K F T H env σ) (h : eB Ty fe fl env = some (d, ds, env')) {Q : VK}
    (k : ∀ x vs H', StOk K F T H' env' σ → Stp env σ H env' H' → Lv K (Ow F T env' σ) H' x d → LvAll K (Ow F T env' σ) H' vs ds → r x vs H' Q) : tBM K Ty r te tl σ H Q := by
  simp only [eB, Option.bind_eq_some_iff] at h
  obtain ⟨⟨r1, e1⟩, h1, d0, h2, h3⟩ := h
  split at h3
  · rename_i ht
    simp only [Option.bind_eq_some_iff, Option.map_eq_some_iff] at h3
    obtain ⟨⟨l, e2⟩, h4, d', h5, ds', h6, h7⟩ := h3
    cases h7
    refine he F T env σ H r1 e1 S h1 _ fun x H1 S1 s1 v1 => ?_
    refine ⟨tyOk_ok ht (rs_ok S1 v1 h2), hl F T e1 σ H1 l _ S1 h4 _ fun vs H2 S2 s2 v2 => ?_⟩
    exact k x vs H2 S2 (s1.trans s2) (rs_ok S2 (v1.stp s2) h5) (rsA_ok S2 v2 h6)
  · cases h3
def eBm (Ty : String) (g : D → List D → Option D) (fe : EvE) (fl : EvA) : EvE := fun env => (eB Ty fe fl env).bind fun p => (g p.1 p.2.1).map fun z => (.val z, p.2.2)
def eBmM (Ty : String) (g : D → List D → Option Mu) (fe : EvE) (fl : EvA) : EvM := fun env => (eB Ty fe fl env).bind fun p => (g p.1 p.2.1).map fun z => (z, p.2.2)
theorem ie_bm {Ty : String} {te : TE} {fe : EvE} {tl : TA} {fl : EvA} {r : RM} {g : D → List D → Option D} (hr : BmD K r g) (he : IE K te fe) (hl : IA K tl fl) : IE K (tBM K Ty r te tl) (eBm Ty g fe fl) := by
  intro F T env σ H rr env' S e Q q
  simp only [eBm, Option.bind_eq_some_iff, Option.map_eq_some_iff] at e
  obtain ⟨⟨d, ds, e1⟩, h1, z, h2, h3⟩ := e
  cases h3
  exact ib he hl S h1 fun x vs H' S' st l1 l2 => hr _ H' x d vs ds z (fun a h => S'.olive h) l1 l2 h2 Q fun v H2 x2 rz => q v H2 (S'.lay x2) (st.trans (Stp.lay x2)) rz
theorem im_bm {Ty : String} {te : TE} {fe : EvE} {tl : TA} {fl : EvA} {r : RM} {g : D → List D → Option Mu} (hr : BmM K r g) (he : IE K te fe) (hl : IA K tl fl) : IM K (tBM K Ty r te tl) (eBmM Ty g fe fl) := by
  intro F T env σ H m env' S e Q q
  simp only [eBmM, Option.bind_eq_some_iff, Option.map_eq_some_iff] at e
  obtain ⟨⟨d, ds, e1⟩, h1, z, h2, h3⟩ := e
  cases h3
  exact ib he hl S h1 fun x vs H' S' st l1 l2 => hr _ H' x d vs ds m (fun a h => S'.olive h) l1 l2 h2 Q fun p H2 n x2 rz => let ⟨a, b, c, d⟩ := im_of S' st n x2 rz; q p H2 a b c d
theorem strs_rp {O : Addr → Prop} {H : Hp} : ∀ ys : List Str, RpAll K O H (ys.map V.str) (ys.map .str)
  | [] => .nil
  | y :: ys => .cons (.str y) (strs_rp ys)
def mSplit : D → List D → Option Mu
  | .str a, [.str b] => if ((b.length != 0) && small (a.length + 2)) = true then some (.l ((Txt.split a b).map .str)) else none
  | _, _ => none
theorem bm_split : BmM K (fun x xs H Q => ∃ a b, x = .str a ∧ xs = [.str b] ∧ (b.length == 0) = false ∧ a.length + 2 ≤ sizeLine ∧ rNewStrs (Txt.split a b) H Q) mSplit := by
  intro O H x d vs ds z hO l1 l2 hz Q q
  match d, ds, hz, l1, l2 with
  | .str a, [.str b], hz, l1, l2 =>
    simp only [mSplit] at hz
    split at hz
    · rename_i hs
      cases hz
      simp only [Bool.and_eq_true, bne_iff_ne] at hs
      obtain ⟨v, rfl, h⟩ := LvAll.one l2
      cases Rp.scS h
      cases Rp.scS l1
      exact ⟨a, b, rfl, rfl, by simpa using hs.1, small_le hs.2, fun p np => q p _ np (ext_new np) (new_lst np (strs_rp _))⟩
    · cases hz
def mPart : D → List D → Option D
  | .str a, [.str b] => if ((b.length != 0) && small a.length) = true then some (.tuple [.str (Txt.partition a b).1, .str (Txt.partition a b).2.1, .str (Txt.partition a b).2.2]) else none
  | _, _ => none
theorem bm_part : BmD K (fun x xs H Q => ∃ a b, x = .str a ∧ xs = [.str b] ∧ (b.length == 0) = false ∧ a.length ≤ sizeLine ∧
    ∀ p, H p = none → Q (.ref p) (upd H p (.tup [.str (Txt.partition a b).1, .str (Txt.partition a b).2.1, .str (Txt.partition a b).2.2]))) mPart := by
  intro O H x d vs ds z hO l1 l2 hz Q q
  match d, ds, hz, l1, l2 with
  | .str a, [.str b], hz, l1, l2 =>
    simp only [mPart] at hz
    split at hz
    · rename_i hs
      cases hz
      simp only [Bool.and_eq_true, bne_iff_ne] at hs
      obtain ⟨v, rfl, h⟩ := LvAll.one l2
      cases Rp.scS h
      cases Rp.scS l1
      exact ⟨a, b, rfl, rfl, by simpa using hs.1, small_le hs.2, fun p np => q _ _ (ext_new np) (new_tup hO np (.cons (.str _) (.cons (.str _) (.cons (.str _) .nil))))⟩
    · cases hz
def strsOf : List D → Option (List Str)
  | [] => some []
  | .str b :: l => (strsOf l).map fun bs => b :: bs
  | _ => none
theorem strsOf_ok {O : Addr → Prop} {H : Hp} : ∀ {vs : List V} {ds : List D} {bs : List Str}, RpAll K O H vs ds → strsOf ds = some bs → vs = bs.map V.str
  | _, _, bs, .nil, h => by simp [strsOf] at h; subst h; rfl
  | _, d :: ds, bs, .cons r t, h => by
    cases d with
    | str b =>
      simp only [strsOf, Option.map_eq_some_iff] at h
      obtain ⟨l, h, rfl⟩ := h
      cases Rp.scS r
      rw [List.map_cons, ← strsOf_ok t h]
    | _ => simp [strsOf] at h
def mJoin : D → List D → Option D
  | .str a, [.list ds] => (strsOf ds).bind fun ys => if (ys.map (·.length)).sum + ys.length * a.length ≤ 16777216 then some (.str (Txt.join a ys)) else none
  | _, _ => none
theorem bm_join : BmD K (fun x xs H Q => ∃ a p, ∃ ys : List Str, x = .str a ∧ xs = [.ref p] ∧ (SqL K H p (ys.map V.str) ∨ SqT K H p (ys.map V.str)) ∧
    (ys.map (·.length)).sum + ys.length * a.length ≤ 16777216 ∧ Q (.str (Txt.join a ys)) H) mJoin := by
  intro O H x d vs ds z hO l1 l2 hz Q q
  match d, ds, hz, l1, l2 with
  | .str a, [.list ds], hz, l1, l2 =>
    simp only [mJoin, Option.bind_eq_some_iff] at hz
    obtain ⟨ys, h1, h2⟩ := hz
    split at h2
    · rename_i hs
      cases h2
      obtain ⟨v, rfl, p, xs, rfl, h, r⟩ := LvAll.one l2
      cases Rp.scS l1
      have e := strsOf_ok r h1
      subst e
      exact ⟨a, p, ys, rfl, rfl, .inl (.inl (.inl h)), hs, q _ H Ext.refl (.str _)⟩
    · cases h2
/-! mutators -/
def gApp : Mu → List D → Option (Mu × D)
  | .l ds, [d] => if small ds.length = true then some (.l (ds ++ [d]), .none) else none
  | _, _ => none
theorem md_app : MtD K "list" rAppend gApp := by
  intro O H a m vs ds m' z ha mu r hz Q q
  match m, ds, hz, r with
  | .l es, [d], hz, r =>
    simp only [gApp] at hz
    split at hz
    · rename_i hs
      cases hz
      obtain ⟨xs, e, rr⟩ := mu
      cases r with
      | cons r1 rt =>
        cases rt
        refine ⟨a, xs, _, rfl, rfl, e, by rw [rr.length]; exact small_lt hs, q _ _ ⟨_, upd_same, ?_⟩ .non⟩
        exact (rr.append (.one r1)).tr (fun _ _ _ n => n) fun b u n q => by rw [upd_ne (fun z => n (by subst z; exact ha))]; exact q
    · cases hz
def gSetL : Mu → D → D → Option Mu
  | .l ds, .int i, e => (ixN (List.length ds) i).map fun j => Mu.l (List.set ds j e)
  | _, _, _ => none
theorem sd_setL : StD K rSetL gSetL := by
  intro O H a m i d j e m' ha mu r1 r2 hz Q q
  match m, d, hz, r1 with
  | .l ds, .int k, hz, r1 =>
    simp only [gSetL, Option.map_eq_some_iff] at hz
    obtain ⟨n, hn, rfl⟩ := hz
    obtain ⟨xs, h, rr⟩ := mu
    cases Rp.sc r1
    refine ⟨a, xs, k, n, rfl, rfl, h, by rw [rr.length]; exact hn, q _ ⟨_, upd_same, ?_⟩⟩
    exact (rr.set r2 n).tr (fun _ _ _ n => n) fun b u n q => by rw [upd_ne (fun z => n (by subst z; exact ha))]; exact q
/-! walks -/
theorem jok_of {J : It} {items : List D} {O : Addr → Prop} {H : Hp} (h : ∀ (O' : Addr → Prop) (H2 : Hp), (∀ a o, H a = some o → ¬ O a → ¬ O' a) → (∀ a o, ¬ O a → H a = some o → H2 a = some o) → (∀ a, O' a → H2 a ≠ none) →
  (∀ i d, items[i]? = some d → J.go i H2 ∧ ∀ x H', J.yld i H2 x H' → Ext (fun _ => False) H2 H' ∧ Rp K O' H' x d) ∧ ∀ i, items.length ≤ i → J.stop i H2) : JOk K J items O H := h
def wList (fe : EvE) : EvW := fun env => (fe env).bind fun p => (rk p.2 p.1).bind fun d => match d with | .list ds => some (ds, p.2) | _ => none
theorem iw_list {te : TE} {fe : EvE} (h : IE K te fe) : IW K (iList K te) (wList fe) := by
  intro F T env σ H items env' S e R k
  simp only [wList, Option.bind_eq_some_iff] at e
  obtain ⟨⟨r, e1⟩, h1, d, h2, h3⟩ := e
  refine h F T env σ H r e1 S h1 _ fun v H1 S1 s1 rv => ?_
  have rd := rk_ok S1 rv h2
  cases d with
  | list ds =>
    cases h3
    cases rd with
    | lst he hn hr =>
      refine ⟨_, rfl, ⟨_, .inl (.inl he)⟩, k _ H1 S1 s1 fun O' H2 f kk hO => ?_⟩
      have e2 := kk _ _ hn he
      have r2 := RpAll.tr f kk hr
      refine ⟨fun i d hi => ?_, fun i hi => ⟨_, .inl (.inl e2), by rw [r2.length]; exact hi⟩⟩
      obtain ⟨v, hv, rv⟩ := r2.get hi
      refine ⟨⟨_, v, .inl (.inl e2), hv⟩, fun x H' y => ?_⟩
      obtain ⟨rfl, y⟩ := y
      have := y _ (.inl (.inl e2))
      rw [hv] at this; cases this
      exact ⟨Ext.refl, rv⟩
  | _ => cases h3
def wTup (fe : EvE) : EvW := fun env => (fe env).bind fun p => (rk p.2 p.1).bind fun d => match d with | .tuple ds => some (ds, p.2) | _ => none
theorem tup_tr {O O' : Addr → Prop} {H H2 : Hp} {a : Addr} {xs : List V} (f : ∀ a o, H a = some o → ¬ O a → ¬ O' a) (k : ∀ a o, ¬ O a → H a = some o → H2 a = some o) (h : (Rd H a (.tup xs) ∧ ¬ O a) ∨ KTp K a xs) : SqT K H2 a xs := (or_tr f k h).imp (·.1) id
theorem iw_tup {te : TE} {fe : EvE} (h : IE K te fe) : IW K (iTup K te) (wTup fe) := by
  intro F T env σ H items env' S e R k
  simp only [wTup, Option.bind_eq_some_iff] at e
  obtain ⟨⟨r, e1⟩, h1, d, h2, h3⟩ := e
  refine h F T env σ H r e1 S h1 _ fun v H1 S1 s1 rv => ?_
  have rd := rk_ok S1 rv h2
  cases d with
  | tuple ds =>
    cases h3
    cases rd with
    | @tup a xs _ he hr =>
      refine ⟨_, rfl, ⟨_, he.imp (·.1) id⟩, k _ H1 S1 s1 fun O' H2 f kk hO => ?_⟩
      have e2 : SqT K H2 a xs := tup_tr f kk he
      have r2 := RpAll.tr f kk hr
      refine ⟨fun i d hi => ?_, fun i hi => ⟨_, e2, by rw [r2.length]; exact hi⟩⟩
      obtain ⟨v, hv, rv⟩ := r2.get hi
      refine ⟨⟨_, v, e2, hv⟩, fun x H' y => ?_⟩
      obtain ⟨rfl, y⟩ := y
      have := y _ e2
      rw [hv] at this; cases this
      exact ⟨Ext.refl, rv⟩
  | _ => cases h3
def rangeD (lo : Int) (n : Nat) : List D := (List.range n).map fun (i : Nat) => PyData.int (lo + (i : Int))
theorem rangeD_get {lo : Int} {n i : Nat} {d : D} (h : (rangeD lo n)[i]? = some d) : i < n ∧ d = .int (lo + i) := by
  unfold rangeD at h
  rw [List.getElem?_map] at h
  simp only [Option.map_eq_some_iff] at h
  obtain ⟨j, h1, rfl⟩ := h
  rw [List.getElem?_eq_some_iff] at h1
  obtain ⟨h2, h3⟩ := h1
  simp at h2 h3
  subst h3
  exact ⟨h2, rfl⟩
theorem rangeD_len {lo : Int} {n : Nat} : (rangeD lo n).length = n := by simp [rangeD]
theorem jok_range {lo : Int} {n : Nat} {O : Addr → Prop} {H : Hp} : JOk K (Itr lo n) (rangeD lo n) O H := fun O' H2 f kk hO => by
  refine ⟨fun i d hi => ?_, fun i hi => by rw [rangeD_len] at hi; exact hi⟩
  obtain ⟨h1, rfl⟩ := rangeD_get hi
  refine ⟨h1, fun x H' y => ?_⟩
  obtain ⟨rfl, rfl⟩ := y
  exact ⟨Ext.refl, .int _⟩
def okR (j : Int) : Bool := decide (-(2 ^ 62) ≤ j ∧ j < 2 ^ 62)
def wRng1 (fl : EvA) : EvW := fun env => (eA fl env).bind fun p => match p.1 with | [.int j] => if okR j = true then some (rangeD 0 j.toNat, p.2) else none | _ => none
theorem iw_rng1 {tl : TA} {fl : EvA} (hl : IA K tl fl) : IW K (iRng1 tl) (wRng1 fl) := by
  intro F T env σ H items env' S e R k
  simp only [wRng1, eA, Option.bind_eq_some_iff, Option.map_eq_some_iff] at e
  obtain ⟨⟨ds, e1⟩, ⟨⟨l, e2⟩, h1, ds', h2, h3⟩, h4⟩ := e
  cases h3
  refine hl F T env σ H l _ S h1 _ fun vs H1 S1 s1 v1 => ?_
  have la := rsA_ok S1 v1 h2
  match ds, h4, la with
  | [.int j], h4, la =>
    simp only at h4
    split at h4
    · rename_i hs
      cases h4
      obtain ⟨v, rfl, h⟩ := LvAll.one la
      cases Rp.sc h
      have hb := of_decide_eq_true hs
      exact ⟨j, rfl, hb.1, hb.2, k _ H1 S1 s1 jok_range⟩
    · cases h4
def wRng2 (fl : EvA) : EvW := fun env => (eA fl env).bind fun p => match p.1 with | [.int i, .int j] => if (okR i && okR j) = true then some (rangeD i (j - i).toNat, p.2) else none | _ => none
theorem iw_rng2 {tl : TA} {fl : EvA} (hl : IA K tl fl) : IW K (iRng2 tl) (wRng2 fl) := by
  intro F T env σ H items env' S e R k
  simp only [wRng2, eA, Option.bind_eq_some_iff, Option.map_eq_some_iff] at e
  obtain ⟨⟨ds, e1⟩, ⟨⟨l, e2⟩, h1, ds', h2, h3⟩, h4⟩ := e
  cases h3
  refine hl F T env σ H l _ S h1 _ fun vs H1 S1 s1 v1 => ?_
  have la := rsA_ok S1 v1 h2
  match ds, h4, la with
  | [.int i, .int j], h4, la =>
    simp only at h4
    split at h4
    · rename_i hs
      cases h4
      obtain ⟨v, w, rfl, h, h'⟩ := LvAll.two la
      cases Rp.sc h
      cases Rp.sc h'
      simp only [Bool.and_eq_true] at hs
      have hb := of_decide_eq_true hs.1
      have hc := of_decide_eq_true hs.2
      exact ⟨i, j, rfl, ⟨hb.1, hb.2, hc.1, hc.2⟩, k _ H1 S1 s1 jok_range⟩
    · cases h4
def signs (x : Str) : List D := x.cps.toList.map fun c => .str ⟨#[c]⟩
def wStr (fe : EvE) : EvW := fun env => (e1 fe env).bind fun p => match p.1 with | .str x => some (signs x, p.2) | _ => none
theorem iw_str {te : TE} {fe : EvE} (h : IE K te fe) : IW K (iStr te) (wStr fe) := by
  intro F T env σ H items env' S e R k
  simp only [wStr, Option.bind_eq_some_iff] at e
  obtain ⟨⟨d, e1⟩, h1, h2⟩ := e
  refine i1 h S h1 fun v H1 S1 s1 l => ?_
  cases d with
  | str x =>
    cases h2
    refine ⟨x, Rp.scS l, k _ H1 S1 s1 fun O' H2 f kk hO => ⟨fun i d hi => ?_, fun i hi => ?_⟩⟩
    · unfold signs at hi
      rw [List.getElem?_map] at hi
      simp only [Option.map_eq_some_iff] at hi
      obtain ⟨c, hc, rfl⟩ := hi
      have hlt := (List.getElem?_eq_some_iff.mp hc).1
      refine ⟨(show i < x.cps.size by simpa using hlt), fun y H' hy => ?_⟩
      obtain ⟨rfl, c', hc', rfl⟩ := hy
      rw [← Array.getElem?_toList, hc] at hc'
      cases hc'
      exact ⟨Ext.refl, .str _⟩
    · exact (show x.cps.size ≤ i by simpa [signs] using hi)
  | _ => cases h2
def enumD (ds : List D) : List D := ds.zipIdx.map fun p => .tuple [.int (p.2 : Int), p.1]
def wEnum (fl : EvA) : EvW := fun env => (fl env).bind fun p => (rkA p.2 p.1).bind fun ds => match ds with | [.list ds] => some (enumD ds, p.2) | _ => none
theorem iw_enum {tl : TA} {fl : EvA} (hl : IA K tl fl) : IW K (iEnum K tl) (wEnum fl) := by
  intro F T env σ H items env' S e R k
  simp only [wEnum, Option.bind_eq_some_iff] at e
  obtain ⟨⟨l, e1⟩, h1, ds, h2, h3⟩ := e
  refine hl F T env σ H l _ S h1 _ fun vs H1 S1 s1 v1 => ?_
  have la := rkA_ok S1 v1 h2
  match ds, h3, la with
  | [.list ds], h3, .cons rd rt =>
    cases h3
    cases rt
    cases rd with
    | lst he hn hr =>
      refine ⟨_, _, rfl, .inl (.inl he), k _ H1 S1 s1 fun O' H2 f kk hO => ?_⟩
      have e2 := kk _ _ hn he
      have r2 := RpAll.tr f kk hr
      refine ⟨fun i d hi => ?_, fun i hi => ⟨_, .inl (.inl e2), by simpa [enumD, r2.length] using hi⟩⟩
      unfold enumD at hi
      rw [List.getElem?_map] at hi
      simp only [Option.map_eq_some_iff] at hi
      obtain ⟨⟨d0, j⟩, hj, rfl⟩ := hi
      have hj' : (ds.zipIdx 0)[i]? = Option.map (fun a => (a, 0 + i)) ds[i]? := List.getElem?_zipIdx
      rw [hj] at hj'
      have hj2 : ds[i]? = some d0 ∧ j = i := by
        cases hq : ds[i]? with
        | none => rw [hq] at hj'; cases hj'
        | some y => rw [hq] at hj'; simp at hj'; exact ⟨by rw [hj'.1], hj'.2⟩
      obtain ⟨hd, rfl⟩ := hj2
      obtain ⟨v, hv, rv⟩ := r2.get hd
      refine ⟨⟨_, v, .inl (.inl e2), hv⟩, fun x H' y => ?_⟩
      obtain ⟨T1, x1, rfl, nT, rfl, hx⟩ := y
      have := hx _ (.inl (.inl e2))
      rw [hv] at this; cases this
      exact ⟨ext_new nT, .tup (.inl ⟨.inl upd_same, fun h => hO _ h nT⟩) (.cons (.int _) (.cons (rv.upd nT) .nil))⟩
/-! f-strings -/
def IJ (K : PySem.W.Frag) : List TE → List EvE → Prop
  | [], [] => True
  | t :: ts, f :: fs => IE K t f ∧ IJ K ts fs
  | _, _ => False
def eJs : List EvE → Str → En → Option (Str × En)
  | [], acc, env => some (acc, env)
  | f :: fs, acc, env => (e1 f env).bind fun p => match p.1 with
    | .str y => if small (acc ++ y).length = true then eJs fs (acc ++ y) p.2 else none
    | _ => none
theorem ij_run {F : Frm} {T : Addr → Prop} {σ : L2.St} : ∀ {ts : List TE} {fs : List EvE} {acc out : Str} {env env' : En} {H : Hp}, IJ K ts fs → StOk K F T H env σ → eJs fs acc env = some (out, env') → ∀ Q : Str → Hp → Prop,
    (∀ H', StOk K F T H' env' σ → Stp env σ H env' H' → Q out H') → tJs ts acc σ H Q
  | [], [], acc, out, env, env', H, _, S, e, Q, q => by cases e; exact q H S Stp.refl
  | t :: ts, f :: fs, acc, out, env, env', H, h, S, e, Q, q => by
    simp only [eJs, Option.bind_eq_some_iff] at e
    obtain ⟨⟨d, e1⟩, h1, h2⟩ := e
    refine i1 h.1 S h1 fun x H1 S1 s1 l => ?_
    cases d with
    | str y =>
      simp only at h2
      split at h2
      · rename_i hs
        exact ⟨y, Rp.scS l, small_le hs, ij_run h.2 S1 h2 Q fun H2 S2 s2 => q H2 S2 (s1.trans s2)⟩
      · cases h2
    | _ => cases h2
  | [], _ :: _, _, _, _, _, _, h, _, _, _, _ => h.elim
  | _ :: _, [], _, _, _, _, _, h, _, _, _, _ => h.elim
def eJoined (fs : List EvE) : EvE := fun env => (eJs fs Str.empty env).map fun p => (.val (.str p.1), p.2)
theorem ie_joined {ts : List TE} {fs : List EvE} (h : IJ K ts fs) : IE K (fun σ H Q => tJs ts Str.empty σ H fun out H1 => Q (.str out) H1) (eJoined fs) := by
  intro F T env σ H r env' S e Q q
  simp only [eJoined, Option.map_eq_some_iff] at e
  obtain ⟨⟨out, e1⟩, h1, h2⟩ := e
  cases h2
  exact ij_run h S h1 _ fun H' S' st => q _ H' S' st (.str _)
def eFmt (fe : EvE) : EvE := fun env => (e1 fe env).bind fun p => match p.1 with
  | .str y => if small y.length = true then some (.val (.str y), p.2) else none
  | .int i => if i.natAbs.log2 < 1920 then some (.val (.str (toString i)), p.2) else none
  | _ => none
theorem ie_fmt {te : TE} {fe : EvE} (h : IE K te fe) : IE K (tFmt te) (eFmt fe) := by
  intro F T env σ H r env' S e Q q
  simp only [eFmt, Option.bind_eq_some_iff] at e
  obtain ⟨⟨d, e1⟩, h1, h2⟩ := e
  refine i1 h S h1 fun x H1 S1 s1 l => ?_
  cases d with
  | str y =>
    simp only at h2
    split at h2
    · rename_i hs
      cases h2
      exact .inl ⟨y, Rp.scS l, small_le hs, q _ H1 S1 s1 (.str _)⟩
    · cases h2
  | int i =>
    simp only at h2
    split at h2
    · rename_i hs
      cases h2
      exact .inr ⟨i, Rp.sc l, hs, q _ H1 S1 s1 (.str _)⟩
    · cases h2
  | _ => cases h2
end
end GD

namespace GD
open PySem PySem.Spec PyProof.Rows L2
/-! expressions whose value may be new -/
abbrev EvX := En → Option (Sum R Mu × En)
def XEnd (K : PySem.W.Frag) (F : Frm) (T : Addr → Prop) (env : En) (σ : L2.St) (H : Hp) (env' : En) (Q : VK) : Sum R Mu → Prop
  | .inl r => ∀ v H', StOk K F T H' env' σ → Stp env σ H env' H' → RvOk K F T H' env' σ v r → Q v H'
  | .inr m => ∀ p H', H p = none → StOk K F (fun a => T a ∨ a = p) H' env' σ → Stp env σ H env' H' → MuAt K (Ow F (fun a => T a ∨ a = p) env' σ) H' p m → Q (.ref p) H'
def IX (K : PySem.W.Frag) (t : TE) (f : EvX) : Prop := ∀ F T env σ H r env', StOk K F T H env σ → f env = some (r, env') → ∀ Q : VK, XEnd K F T env σ H env' Q r → t σ H Q
section
variable {K : PySem.W.Frag} {te ta tb : TE} {fe : EvE} {fm : EvM} {fx fy : EvX} {tt : TT} {ft : EvT}
def xE (fe : EvE) : EvX := fun env => (fe env).map fun p => (.inl p.1, p.2)
def xM (fm : EvM) : EvX := fun env => (fm env).map fun p => (.inr p.1, p.2)
def eX (fx : EvX) : EvE := fun env => (fx env).map fun p => (match p.1 with | .inl r => r | .inr m => .val m.toD, p.2)
theorem ix_e (h : IE K te fe) : IX K te (xE fe) := by
  intro F T env σ H r env' S e Q q
  simp only [xE, Option.map_eq_some_iff] at e
  obtain ⟨⟨r0, e1⟩, h1, h2⟩ := e
  cases h2
  exact h F T env σ H r0 _ S h1 Q q
theorem ix_m (h : IM K te fm) : IX K te (xM fm) := by
  intro F T env σ H r env' S e Q q
  simp only [xM, Option.map_eq_some_iff] at e
  obtain ⟨⟨r0, e1⟩, h1, h2⟩ := e
  cases h2
  exact h F T env σ H r0 _ S h1 Q q
theorem fresh_rp {F : Frm} {T : Addr → Prop} {env env' : En} {σ : L2.St} {H H' : Hp} {p : Addr} {m : Mu} (S : StOk K F T H env σ) (np : H p = none) (st : Stp env σ H env' H') (mu : MuAt K (Ow F (fun a => T a ∨ a = p) env' σ) H' p m) : Rp K (Ow F T env' σ) H' (.ref p) m.toD := by
  refine (mu.tr (fun b _ _ n q => n (q.imp id (.imp .inl id))) (fun _ _ _ e => e) (fun _ e => e)).rp ?_
  rintro (h | h | h)
  · exact S.fresh np (.inl h)
  · exact S.fresh np (.inr (.inl h))
  · exact S.fresh np (.inr (.inr (st.wr p h)))
theorem ie_x (h : IX K te fx) : IE K te (eX fx) := by
  intro F T env σ H r env' S e Q q
  simp only [eX, Option.map_eq_some_iff] at e
  obtain ⟨⟨r0, e1⟩, h1, h2⟩ := e
  cases h2
  refine h F T env σ H r0 _ S h1 Q ?_
  cases r0 with
  | inl r => exact q
  | inr m => exact fun p H' np S' st mu => q _ H' (S'.anti fun a h => .inl h) st (fresh_rp S np st mu)
def xIf (ft : EvT) (fa fb : EvX) : EvX := fun env => (ft env).bind fun p => if p.1 = true then fa p.2 else fb p.2
theorem ix_if (h : IT K tt ft) (ha : IX K ta fx) (hb : IX K tb fy) : IX K (tIf tt ta tb) (xIf ft fx fy) := by
  intro F T env σ H r env' S e Q q
  simp only [xIf, Option.bind_eq_some_iff] at e
  obtain ⟨⟨c, e1⟩, h1, h2⟩ := e
  refine h F T env σ H c e1 S h1 _ fun H1 S1 s1 => ?_
  have q' : XEnd K F T e1 σ H1 env' Q r := by
    cases r with
    | inl r => exact fun v H' S' st rv => q v H' S' (s1.trans st) rv
    | inr m => exact fun p H' np S' st mu => q p H' (by
        cases h : H p with
        | none => rfl
        | some o => exact absurd np (s1.ext.live p (by rw [h]; simp))) S' (s1.trans st) mu
  cases c with
  | true =>
    simp only [if_true] at h2 ⊢
    exact ha F T e1 σ H1 r env' S1 h2 Q q'
  | false =>
    simp only [Bool.false_eq_true, if_false] at h2 ⊢
    exact hb F T e1 σ H1 r env' S1 h2 Q q'
def OpX (K : PySem.W.Frag) (r : R2) (g : D → D → Option (Sum D Mu)) : Prop := ∀ (O : Addr → Prop) (H : Hp) x y d e z, (∀ a, O a → H a ≠ none) → Lv K O H x d → Lv K O H y e → g d e = some z → ∀ Q : VK,
  (match z with
    | .inl z => ∀ v H', Ext (fun _ => False) H H' → Rp K O H' v z → Q v H'
    | .inr m => ∀ p H', H p = none → Ext (fun _ => False) H H' → MuAt K (fun a => O a ∨ a = p) H' p m → Q (.ref p) H') → r x y H Q
def xOp (g : D → D → Option (Sum D Mu)) (fa fb : EvE) : EvX := fun env => (e2 fa fb env).bind fun p => (g p.1 p.2.1).map fun z => (match z with | .inl d => .inl (.val d) | .inr m => .inr m, p.2.2)
theorem ix_op {r : R2} {g : D → D → Option (Sum D Mu)} {fa fb : EvE} (hr : OpX K r g) (ha : IE K ta fa) (hb : IE K tb fb) : IX K (tOp r ta tb) (xOp g fa fb) := by
  intro F T env σ H r env' S e Q q
  simp only [xOp, Option.bind_eq_some_iff, Option.map_eq_some_iff] at e
  obtain ⟨⟨d, e, e1⟩, h1, z, h2, h3⟩ := e
  cases h3
  refine i2 ha hb S h1 fun x y H' S' st l1 l2 => hr (Ow F T e1 σ) H' x y d e z (fun a h => S'.olive h) l1 l2 h2 Q ?_
  cases z with
  | inl z => exact fun v H2 x r => q v H2 (S'.lay x) (st.trans (Stp.lay x)) r
  | inr m => exact fun p H2 n x r => let ⟨a, b, c, d⟩ := im_of S' st n x r; q p H2 a b c d
theorem ox_or {r r' : R2} {g : D → D → Option D} {g' : D → D → Option Mu} (h : OpD K r g) (h' : OpM K r' g') : OpX K (fun x y H Q => r x y H Q ∨ r' x y H Q) (fun d e => match g d e with | some z => some (.inl z) | none => (g' d e).map .inr) := by
  intro O H x y d e z hO l1 l2 hz Q q
  cases hg : g d e with
  | some z0 =>
    simp only [hg] at hz
    cases hz
    exact .inl (h O H x y d e z0 hO l1 l2 hg Q q)
  | none =>
    simp only [hg, Option.map_eq_some_iff] at hz
    obtain ⟨m, hm, rfl⟩ := hz
    exact .inr (h' O H x y d e m hO l1 l2 hm Q q)
/-! + of anything -/
def rAddX (K : PySem.W.Frag) : R2 := fun x y H Q => rAddA K x y H Q ∨ rCat x y H Q
theorem op_addX {X : Cx} : OpR X (binaryOp .Add) (rAddX X.K) := OpR.or op_addA op_cat
def dAddX (d e : D) : Option (Sum D Mu) := match dAdd d e with | some z => some (.inl z) | none => (dAddM d e).map .inr
theorem ox_add : OpX K (rAddX K) dAddX := ox_or od_add om_add
/-! slices of anything -/
def rSlX (K : PySem.W.Frag) : R3 := fun x lo hi H Q => rSlB K x lo hi H Q ∨ rSlL K x lo hi H Q
theorem sl_any {X : Cx} : SlR X (rSlX X.K) := SlR.or sl_both sl_list
def xSl (fe : EvE) (fl fh : EvO) : EvX := fun env => (e3 fe fl fh env).bind fun p => match dSl p.1 p.2.1 p.2.2.1 with
  | some z => some (.inl (.val z), p.2.2.2)
  | none => (dSlL p.1 p.2.1 p.2.2.1).map fun m => (.inr m, p.2.2.2)
theorem ix_sl {tl th : TO} {fl fh : EvO} (he : IE K te fe) (hl : IO K tl fl) (hh : IO K th fh) : IX K (tSl (rSlX K) te tl th) (xSl fe fl fh) := by
  intro F T env σ H r env' S e Q q
  simp only [xSl, Option.bind_eq_some_iff] at e
  obtain ⟨⟨d, lo, hi, e1⟩, h1, h2⟩ := e
  cases hg : dSl d lo hi with
  | some z =>
    simp only [hg] at h2
    cases h2
    exact i3 he hl hh S h1 fun x H' S' st l => .inl (sd_both _ H' x d lo hi z (fun a h => S'.olive h) l hg Q fun v H2 x2 rz => q v H2 (S'.lay x2) (st.trans (Stp.lay x2)) rz)
  | none =>
    simp only [hg, Option.map_eq_some_iff] at h2
    obtain ⟨m, hm, h3⟩ := h2
    cases h3
    exact i3 he hl hh S h1 fun x H' S' st l => .inr (sm_list _ H' x d lo hi m (fun a h => S'.olive h) l hm Q fun p H2 n x2 rz => let ⟨a, b, c, d⟩ := im_of S' st n x2 rz; q p H2 a b c d)
/-! calls -/
def xCall (M : FnS) (fl : EvA) : EvX := fun env => (fl env).bind fun q => (slArgs q.2 q.1).bind fun ss => if (ownSlots q.2 q.1).Nodup then (M ss).bind fun z => if ouOk ss z.2 = true then
    (match z.1 with | .val d => some (.inl (.val d), updO q.2 q.1 z.2) | .new m => some (.inr m, updO q.2 q.1 z.2)) else none else none
theorem xcall_run {M : FnS} {k : Nat} {E : XK} {F : Frm} {T : Addr → Prop} {env0 env env' : En} {σ : L2.St} {H0 H : Hp} {l : List R} {vs : List V} {r : Sum R Mu} {Q : VK} (S : StOk K F T H env σ) (s0 : Stp env0 σ H0 env H) (rv : RvAll K F T H env σ vs l) (hk : l.length = k)
    (e : ((slArgs env l).bind fun ss => if (ownSlots env l).Nodup then (M ss).bind fun z => if ouOk ss z.2 = true then
    (match z.1 with | .val d => some (Sum.inl (R.val d), updO env l z.2) | .new m => some (Sum.inr m, updO env l z.2)) else none else none) = some (r, env'))
    (q : XEnd K F T env0 σ H0 env' Q r) : spD K k M vs H Q E := by
  simp only [Option.bind_eq_some_iff] at e
  obtain ⟨ss, h2, h3⟩ := e
  split at h3
  · rename_i nd
    simp only [Option.bind_eq_some_iff] at h3
    obtain ⟨⟨r0, outs⟩, h4, h5⟩ := h3
    split at h5
    · rename_i hou
      have hou' := ouOk_get hou
      refine call_run S rv h2 nd h4 hk hou' fun v H' x c => ?_
      cases r0 with
      | val d =>
        obtain ⟨rd, oo⟩ := c
        simp only [Option.some.injEq, Prod.mk.injEq] at h5
        obtain ⟨rfl, rfl⟩ := h5
        obtain ⟨S2, s2⟩ := call_ok S rv h2 hou' x (T' := T) (fun _ h => h) (fun _ h => .inl h) (fun a h => x.live a (S.tdm a h)) (fun i m hm => let ⟨a, h, mu⟩ := oo i m hm; ⟨a, h, mu.tr (fun b _ _ n z => n (z.elim id fun z => .inr (.inl z))) (fun _ _ _ e => e) fun _ e => e⟩)
        exact q v H' S2 (s0.trans s2) (rd.anti fun b h => h.imp id (.imp id (s2.wr b)))
      | new m0 =>
        obtain ⟨p, rfl, np, mu, oo⟩ := c
        simp only [Option.some.injEq, Prod.mk.injEq] at h5
        obtain ⟨rfl, rfl⟩ := h5
        have np0 : H0 p = none := by
          cases h : H0 p with
          | none => rfl
          | some o => exact absurd np (s0.ext.live p (by rw [h]; simp))
        obtain ⟨S2, s2⟩ := call_ok S rv h2 hou' x (T' := fun a => T a ∨ a = p) (fun _ h => .inl h) (fun a h => h.imp id fun h => by subst h; exact np) (fun a h => h.elim (fun h => x.live a (S.tdm a h)) fun h => by subst h; exact mu.alive)
          (fun i m hm => let ⟨a, h, mu⟩ := oo i m hm; ⟨a, h, mu.tr (fun b _ _ n z => n (by
            rcases z with z | z | z
            · exact .inl z
            · exact .inl (.inr (.inl z))
            · exact .inr z)) (fun _ _ _ e => e) fun _ e => e⟩)
        exact q p H' np0 S2 (s0.trans s2) (mu.tr (fun b _ _ n z => n (by
            rcases z with z | (z | z) | z
            · exact .inl (.inl z)
            · exact .inl (.inr (.inl z))
            · exact .inr z
            · exact .inl (.inr (.inr (s2.wr b z))))) (fun _ _ _ e => e) fun _ e => e)
    · cases h5
  · cases h3
def lenOk (k : Nat) (fl : EvA) : Prop := ∀ env l env', fl env = some (l, env') → l.length = k
theorem len_nil : lenOk 0 aNil := fun env l env' h => by cases h; rfl
theorem len_cons {k : Nat} {fl : EvA} (h : lenOk k fl) : lenOk (k + 1) (aCons fe fl) := fun env l env' e => by
  simp only [aCons, Option.bind_eq_some_iff, Option.map_eq_some_iff] at e
  obtain ⟨⟨r1, e1⟩, h1, ⟨l2, e2⟩, h2, h3⟩ := e
  cases h3
  exact congrArg (· + 1) (h _ _ _ h2)
theorem ix_call {M : FnS} {k : Nat} {E : XK} {t : TA} {fl : EvA} (hl : IA K t fl) (hk : lenOk k fl) : IX K (tCall (spD K k M) [] E t) (xCall M fl) := by
  intro F T env σ H r env' S e Q q
  simp only [xCall, Option.bind_eq_some_iff] at e
  obtain ⟨⟨l, e1⟩, h1, h2⟩ := e
  refine hl F T env σ H l e1 S h1 _ fun vs H1 S1 s1 rv => ?_
  simp only [List.append_nil]
  exact xcall_run S1 s1 rv (hk _ _ _ h1) (by simpa only [Option.bind_eq_some_iff] using h2) q
/-- with defaults: the values dvs read as dd -/
def xCallD (M : FnS) (dd : List D) (fl : EvA) : EvX := fun env => (fl env).bind fun q => (slArgs q.2 (q.1 ++ dd.map R.val)).bind fun ss => if (ownSlots q.2 (q.1 ++ dd.map R.val)).Nodup then (M ss).bind fun z => if ouOk ss z.2 = true then
    (match z.1 with | .val d => some (.inl (.val d), updO q.2 (q.1 ++ dd.map R.val) z.2) | .new m => some (.inr m, updO q.2 (q.1 ++ dd.map R.val) z.2)) else none else none
theorem RvAll.app {F : Frm} {T : Addr → Prop} {env : En} {σ : L2.St} {H : Hp} : ∀ {vs : List V} {rs : List R} {us : List V} {ds : List D}, RvAll K F T H env σ vs rs → RpAll K (Ow F T env σ) H us ds → RvAll K F T H env σ (vs ++ us) (rs ++ ds.map R.val)
  | [], [], _, _, _, .nil => trivial
  | [], [], _, _, h, .cons r t => ⟨r, RvAll.app (vs := []) (rs := []) h t⟩
  | v :: vs, r :: rs, _, _, h, q => ⟨h.1, RvAll.app h.2 q⟩
  | [], _ :: _, _, _, h, _ => h.elim
  | _ :: _, [], _, _, h, _ => h.elim
theorem ix_callD {M : FnS} {k : Nat} {E : XK} {t : TA} {fl : EvA} {dvs : List V} {dd : List D} (hl : IA K t fl) (hd : ∀ O H, RpAll K O H dvs dd) (hk : ∀ env l env', fl env = some (l, env') → (l ++ dd.map R.val).length = k) : IX K (tCall (spD K k M) dvs E t) (xCallD M dd fl) := by
  intro F T env σ H r env' S e Q q
  simp only [xCallD, Option.bind_eq_some_iff] at e
  obtain ⟨⟨l, e1⟩, h1, h2⟩ := e
  refine hl F T env σ H l e1 S h1 _ fun vs H1 S1 s1 rv => ?_
  exact xcall_run S1 s1 (rv.app (hd _ _)) (hk _ _ _ h1) (by simpa only [Option.bind_eq_some_iff] using h2) q
/-- with keywords: pm puts the positional and the keywords' results into the parameters' order -/
def xCallK (M : FnS) (pm : List R → List R → List R) (fl fk : EvA) : EvX := fun env => (fl env).bind fun q => (fk q.2).bind fun w => (slArgs w.2 (pm q.1 w.1)).bind fun ss => if (ownSlots w.2 (pm q.1 w.1)).Nodup then (M ss).bind fun z => if ouOk ss z.2 = true then
    (match z.1 with | .val d => some (.inl (.val d), updO w.2 (pm q.1 w.1) z.2) | .new m => some (.inr m, updO w.2 (pm q.1 w.1) z.2)) else none else none
theorem ix_callK {M : FnS} {k : Nat} {E : XK} {t tk : TA} {fl fk : EvA} {gV : List V → List V → List V} {pm : List R → List R → List R} (hl : IA K t fl) (hkw : IA K tk fk)
    (hp : ∀ {F : Frm} {T : Addr → Prop} {H : Hp} {env : En} {σ : L2.St} {vs us : List V} {l w : List R}, RvAll K F T H env σ vs l → RvAll K F T H env σ us w → RvAll K F T H env σ (gV vs us) (pm l w))
    (hk : ∀ env l e1 w e2, fl env = some (l, e1) → fk e1 = some (w, e2) → (pm l w).length = k) : IX K (tCallK (spD K k M) gV E t tk) (xCallK M pm fl fk) := by
  intro F T env σ H r env' S e Q q
  simp only [xCallK, Option.bind_eq_some_iff] at e
  obtain ⟨⟨l, e1⟩, h1, ⟨w, e2⟩, h2, h3⟩ := e
  refine hl F T env σ H l e1 S h1 _ fun vs H1 S1 s1 rv => ?_
  refine hkw F T e1 σ H1 w e2 S1 h2 _ fun us H2 S2 s2 rw2 => ?_
  exact xcall_run S2 (s1.trans s2) (hp (rv.stp s2) rw2) (hk _ _ _ _ _ h1 h2) (by simpa only [Option.bind_eq_some_iff] using h3) q
/-! statements -/
def sSetX (i : Nat) (fx : EvX) : EvS := fun env => (fx env).bind fun p => match p.1 with
  | .inl r => (rk p.2 r).map fun d => (.nx, p.2.set i (some (.shr d)))
  | .inr m => some (.nx, p.2.set i (some (.own false m)))
theorem is_setX {i : Nat} (h : IX K te fx) : IS K (tAsg te (gName i)) (sSetX i fx) := by
  intro F env σ H fl env' S e Dn k
  simp only [sSetX, Option.bind_eq_some_iff] at e
  obtain ⟨⟨r, e1⟩, a1, a2⟩ := e
  refine h F T0 env σ H r e1 S a1 _ ?_
  cases r with
  | inl r =>
    simp only [Option.map_eq_some_iff] at a2
    obtain ⟨d, a3, a4⟩ := a2
    cases a4
    exact fun v H' S' st rv => k _ H' (S'.setS (rk_ok S' rv a3)) (st.q.trans S'.setS_q)
  | inr m =>
    cases a2
    intro p H' np S' st mu
    refine k _ H' (StOk.setM id S' (S.fresh0 np) mu) ⟨st.ext, fun b hb => ?_⟩
    rcases wr_set hb with hb | ⟨_, _, e, e2⟩
    · exact .inl (st.wr b hb)
    · cases e2; exact .inr np
def sRetX (fx : EvX) : EvS := fun env => (fx env).bind fun p => match p.1 with
  | .inl (.val d) => some (.rt (.val d), p.2)
  | .inl (.slot i) => (match slOf p.2 i with
    | some (.shr d) => some (.rt (.val d), p.2)
    | some (.own false m) => some (.rt (.new m), p.2)
    | _ => none)
  | .inr m => some (.rt (.new m), p.2)
theorem is_retX (h : IX K te fx) : IS K (tRet te) (sRetX fx) := by
  intro F env σ H fl env' S e Dn k
  simp only [sRetX, Option.bind_eq_some_iff] at e
  obtain ⟨⟨r, e1⟩, a1, a2⟩ := e
  refine h F T0 env σ H r e1 S a1 _ ?_
  cases r with
  | inr m => cases a2; exact fun p H' np S' st mu => k _ σ H' ⟨p, _, rfl, S.fresh0 np, S', .inr (.inl (.inr rfl)), mu⟩
  | inl r =>
    intro v H' S' st rv
    cases r with
    | val d => cases a2; exact k v σ H' ⟨S', rv⟩
    | slot i =>
      cases g : slOf e1 i with
      | none => simp [g] at a2
      | some s =>
        have g' := slOf_eq.mp g
        cases s with
        | shr d =>
          simp [g] at a2
          obtain ⟨rfl, rfl⟩ := a2
          obtain ⟨w, q1, q2⟩ := S'.shr i d g'
          rw [show σ[i]? = some (some v) from rv] at q1; cases q1
          exact k v σ H' ⟨S', q2⟩
        | own p m =>
          cases p with
          | true => simp [g] at a2
          | false =>
            simp [g] at a2
            obtain ⟨rfl, rfl⟩ := a2
            obtain ⟨a, q1, q2, q3⟩ := S'.own i false m g'
            rw [show σ[i]? = some (some v) from rv] at q1; cases q1
            exact k _ σ H' ⟨a, T0, rfl, by simpa using q3, S', .inr (.inr ⟨i, _, _, g', rv⟩), q2⟩
end
/-! the promise of a def, by its body -/
theorem fnD {P : Program} {w : World} {K : PySem.W.Frag} {mg : Str → Option Value} {base : Heap} {x qual : Str} {st : Stmt} {f : Addr} {fd : FuncData} {N ps : List Str} {k : Nat} {b : EvS} (F : Fun K x qual st f fd) (S : FnScope N ps (defScope st))
    (hbody : ∀ (cdv : Value) (A : Around) (outer : List Env) (s : Shared) (H : Hp) (E : XK), A.guards = some [] → Room k (A.deeper (envOfC qual (defScope st) s.heap.objs.size f cdv)) →
      ∃ t, PSs (cxOf CX0 P w K mg base N qual (defScope st) f cdv A outer s H E).nox (defBody st) t ∧ IS K t b) : FnG P w K mg base CX0 (k + 1) f fd ps (spD K ps.length (runB N.length b)) := by
  refine okG F S (fun vs H Q E h => ?_) (fun cdv A outer s H vs Q E hg hr h => ?_)
  · obtain ⟨O, ss, r, outs, hl, _⟩ := h; exact hl
  · obtain ⟨t, h1, h2⟩ := hbody cdv A outer s H E hg hr
    have hk : ps.length ≤ N.length := by have := congrArg List.length S.pre; rw [List.length_take] at this; omega
    exact ⟨t, h1, body_ok h2 hk h⟩
end GD

namespace GD
open PySem PySem.Spec PyProof.Rows L2
/-! a walk over a list, a tuple or a text -/
def iAny (K : PySem.W.Frag) (tl : TE) : TI := fun σ H R => tl σ H fun x H1 =>
  (∃ a xs, x = .ref a ∧ SqL K H1 a xs ∧ R (Itl K a) H1) ∨ (∃ a xs, x = .ref a ∧ SqT K H1 a xs ∧ R (Itt K a) H1) ∨ ∃ z, x = .str z ∧ R (Its z) H1
theorem pi_any {X : Cx} {tg l : Expr} {tl : TE} (hl : PE X l tl) : PI X tg l (iAny X.K tl) := by
  constructor
  intro pins s σ H R I h
  refine thn (hl.run pins s σ H _ I h) ?_
  rintro v s1 ⟨x, H1, I1, r1, q1⟩
  rcases q1 with ⟨a, xs, rfl, hq, q⟩ | ⟨a, xs, rfl, hq, q⟩ | ⟨z, rfl, q⟩
  · cases r1
    obtain ⟨its, rv, p, hz⟩ := I1.list hq
    exact wpAny_pyIter_list p.isList (pi_one (tk := s1.toks) I1 _ (turn_list a _) ⟨_, Heap.get?_push_size _ rfl, rfl, rfl⟩ q)
  · cases r1
    obtain ⟨its, rv, p, hz⟩ := I1.tuple hq
    exact wpAny_pyIter_tuple p (pi_one (tk := s1.toks) I1 _ (turn_tuple a _) ⟨_, Heap.get?_push_size _ rfl, rfl, rfl⟩ q)
  · obtain ⟨t, rfl⟩ := r1
    cases ha : z.cps.all (· < 128)
    · exact wpAny_pyIter_wide ha (pi_one (tk := s1.toks) I1 _ (turn_str _ z t "str_iterator" (.inr rfl)) ⟨_, Heap.get?_push_size _ rfl, rfl, rfl⟩ q)
    · exact wpAny_pyIter_ascii ha (pi_one (tk := s1.toks) I1 _ (turn_str _ z t "str_ascii_iterator" (.inl rfl)) ⟨_, Heap.get?_push_size _ rfl, rfl, rfl⟩ q)
def wAny (fe : EvE) : EvW := fun env => (fe env).bind fun p => (rk p.2 p.1).bind fun d => match d with
  | .list ds => some (ds, p.2)
  | .tuple ds => some (ds, p.2)
  | .str x => some (signs x, p.2)
  | _ => none
section
variable {K : PySem.W.Frag}
theorem jok_list {O : Addr → Prop} {H : Hp} {a : Addr} {xs : List V} {ds : List D} (he : H a = some (.lst xs)) (hn : ¬ O a) (hr : RpAll K O H xs ds) : JOk K (Itl K a) ds O H := fun O' H2 f kk hO => by
  have e2 := kk _ _ hn he
  have r2 := RpAll.tr f kk hr
  refine ⟨fun i d hi => ?_, fun i hi => ⟨_, .inl (.inl e2), by rw [r2.length]; exact hi⟩⟩
  obtain ⟨v, hv, rv⟩ := r2.get hi
  refine ⟨⟨_, v, .inl (.inl e2), hv⟩, fun x H' y => ?_⟩
  obtain ⟨rfl, y⟩ := y
  have := y _ (.inl (.inl e2))
  rw [hv] at this; cases this
  exact ⟨Ext.refl, rv⟩
theorem jok_tup {O : Addr → Prop} {H : Hp} {a : Addr} {xs : List V} {ds : List D} (he : (Rd H a (.tup xs) ∧ ¬ O a) ∨ KTp K a xs) (hr : RpAll K O H xs ds) : JOk K (Itt K a) ds O H := fun O' H2 f kk hO => by
  have e2 : SqT K H2 a xs := tup_tr f kk he
  have r2 := RpAll.tr f kk hr
  refine ⟨fun i d hi => ?_, fun i hi => ⟨_, e2, by rw [r2.length]; exact hi⟩⟩
  obtain ⟨v, hv, rv⟩ := r2.get hi
  refine ⟨⟨_, v, e2, hv⟩, fun x H' y => ?_⟩
  obtain ⟨rfl, y⟩ := y
  have := y _ e2
  rw [hv] at this; cases this
  exact ⟨Ext.refl, rv⟩
theorem jok_str {O : Addr → Prop} {H : Hp} {x : Str} : JOk K (Its x) (signs x) O H := fun O' H2 f kk hO => by
  refine ⟨fun i d hi => ?_, fun i hi => ?_⟩
  · unfold signs at hi
    rw [List.getElem?_map] at hi
    simp only [Option.map_eq_some_iff] at hi
    obtain ⟨c, hc, rfl⟩ := hi
    have hlt := (List.getElem?_eq_some_iff.mp hc).1
    refine ⟨(show i < x.cps.size by simpa using hlt), fun y H' hy => ?_⟩
    obtain ⟨rfl, c', hc', rfl⟩ := hy
    rw [← Array.getElem?_toList, hc] at hc'
    cases hc'
    exact ⟨Ext.refl, .str _⟩
  · exact (show x.cps.size ≤ i by simpa [signs] using hi)
theorem iw_any {te : TE} {fe : EvE} (h : IE K te fe) : IW K (iAny K te) (wAny fe) := by
  intro F T env σ H items env' S e R k
  simp only [wAny, Option.bind_eq_some_iff] at e
  obtain ⟨⟨r, e1⟩, h1, d, h2, h3⟩ := e
  refine h F T env σ H r e1 S h1 _ fun v H1 S1 s1 rv => ?_
  have rd := rk_ok S1 rv h2
  cases d with
  | list ds =>
    cases h3
    cases rd with
    | lst he hn hr => exact .inl ⟨_, _, rfl, .inl (.inl he), k _ H1 S1 s1 (jok_list he hn hr)⟩
  | tuple ds =>
    cases h3
    cases rd with
    | tup he hr => exact .inr (.inl ⟨_, _, rfl, he.imp (·.1) id, k _ H1 S1 s1 (jok_tup he hr)⟩)
  | str x =>
    cases h3
    exact .inr (.inr ⟨x, Rp.scS rd, k _ H1 S1 s1 jok_str⟩)
  | _ => cases h3
/-! what is never come to -/
def sNever : EvS := fun _ => none
theorem is_never : IS K tNever sNever := fun F env σ H fl env' S e Dn h => by cases e
end
/-! the drawing state at the beginning of a law -/
def spPen (K : PySem.W.Frag) : Sp := fun vs H Q _ => ∃ (a : Addr) (ns : List Int), vs = [.ref a] ∧ SqL K H a (ns.map V.int) ∧ ns.length ≤ 63 ∧
  ∀ p q H', H p = none → H q = none → p ≠ q → Ext (fun _ => False) H H' → H' q = some (.lst (ns.map V.int)) → H' p = some (.lst [.ref q, .int 0, .int 0]) → Q (.ref p) H'
abbrev tPenArg (K : PySem.W.Frag) : TE := tCB (fun xs H Q => ∃ p ys, xs = [.ref p] ∧ (SqL K H p ys ∨ SqT K H p ys) ∧ ∀ l, H l = none → Q (.ref l) (upd H l (.lst ys))) (tCons (tSl (rSlL K) (tVar 0) tNoPart (tPart (tC (.int 63)))) tNil)
theorem cut63 {xs : List V} (h : xs.length ≤ 63) : cutV xs none (some 63) = xs := by
  unfold cutV
  rw [HT.sIx_none, show (63 : Int) = ((63 : Nat) : Int) from rfl, HT.sIx_nat, List.drop_zero, Nat.min_eq_right h, Nat.sub_zero, List.take_length]
theorem sql_new {K : PySem.W.Frag} {H : Hp} {a p : Addr} {xs : List V} {o : HO} (n : H p = none) (h : SqL K H a xs) : SqL K (upd H p o) a xs := by
  rcases h with h | h
  · exact .inl (rd_tr (fun u e => by rw [upd_ne (ne_of_none e n)]; exact e) h)
  · exact .inr h
theorem pen_read {K : PySem.W.Frag} {N : List Str} {vs : List V} {H : Hp} {Q : VK} {E : XK} (h : spPen K vs H Q E) :
    tRet (tLst (tCons (tPenArg K) (tCons (tC (.int 0)) (tCons (tC (.int 0)) tNil)))) { nx := fun _ H' => Q .non H', rt := Q } (L2.start N vs) H := by
  obtain ⟨a, ns, rfl, hS, hl, q⟩ := h
  refine ⟨.ref a, start_get rfl, 63, rfl, a, _, rfl, hS, fun c nc => ⟨c, _, rfl, .inl (.inl (.inl upd_same)), fun l nl => ⟨by show 3 ≤ sizeLine; decide, fun p np => ?_⟩⟩⟩
  rw [cut63 (by simpa using hl)] at nl np ⊢
  have nlc : l ≠ c := fun e => by subst e; rw [upd_same] at nl; cases nl
  have npl : p ≠ l := fun e => by subst e; rw [upd_same] at np; cases np
  have npc : p ≠ c := fun e => by subst e; rw [upd_ne npl, upd_same] at np; cases np
  rw [upd_ne npl, upd_ne npc] at np
  rw [upd_ne nlc] at nl
  refine q p l _ np nl npl ?_ ?_ upd_same
  · refine ⟨fun b o e _ => ?_, fun b e => ?_⟩
    · rw [upd_ne (ne_of_none e np), upd_ne (ne_of_none e nl), upd_ne (ne_of_none e nc)]; exact e
    · cases h : H b with
      | none => exact absurd h e
      | some o => rw [upd_ne (ne_of_none h np), upd_ne (ne_of_none h nl), upd_ne (ne_of_none h nc), h]; simp
  · rw [upd_ne npl.symm, upd_same]
def penv (n : Nat) (ns : List Int) : En := none :: some (.own false (.l [.list (ns.map .int), .int 0, .int 0])) :: List.replicate (n - 2) none
theorem ints_rp {K : PySem.W.Frag} {O : Addr → Prop} {H : Hp} : ∀ ns : List Int, RpAll K O H (ns.map V.int) (ns.map .int)
  | [] => .nil
  | n :: ns => .cons (.int n) (ints_rp ns)
theorem law_read {K : PySem.W.Frag} {t : TS} {b : EvS} {N : List Str} {a : Addr} {ns : List Int} {H : Hp} {E : XK} (hN : 2 ≤ N.length) (hb : IS K t b) (hS : SqL K H a (ns.map V.int)) (hl : ns.length ≤ 63)
    (h : ∃ env', b (penv N.length ns) = some (.rt (.val (.bool true)), env')) :
    tSeq (tAsg (tCall (spPen K) [] E (tCons (tVar 0) tNil)) (gName 1)) t { nx := fun _ H' => (fun v (_ : Hp) => v = V.bl true) .non H', rt := fun v _ => v = V.bl true } (L2.start N [.ref a]) H := by
  obtain ⟨env', he⟩ := h
  refine ⟨.ref a, start_get rfl, a, ns, rfl, hS, hl, fun p q H' np nq pq x hq hp => ?_⟩
  let F : Frm := ⟨fun _ => False, fun _ => False, H, [.ref a]⟩
  have hst : (L2.start N [.ref a]).set 1 (some (.ref p)) = some (.ref a) :: some (.ref p) :: List.replicate (N.length - 2) none := by
    unfold L2.start
    obtain ⟨k, hk⟩ : ∃ k, N.length = k + 2 := ⟨N.length - 2, by omega⟩
    rw [hk]
    simp [List.replicate]
  show t _ ((L2.start N [.ref a]).set 1 (some (.ref p))) H'
  rw [hst]
  have own_at : ∀ (i : Nat) (s : Sl), (penv N.length ns)[i]? = some (some s) → i = 1 ∧ s = .own false (.l [.list (ns.map .int), .int 0, .int 0]) := by
    intro i s e
    unfold penv at e
    match i with
    | 0 => simp at e
    | 1 => simp at e; exact ⟨rfl, e.symm⟩
    | i + 2 =>
      rw [List.getElem?_cons_succ, List.getElem?_cons_succ, List.getElem?_replicate] at e
      split at e <;> cases e
  have wr : ∀ b, Wr (penv N.length ns) (some (V.ref a) :: some (.ref p) :: List.replicate (N.length - 2) none) b → b = p := by
    rintro b ⟨i, q, m, e, s⟩
    obtain ⟨rfl, _⟩ := own_at i _ e
    simpa using s.symm
  have ow : ¬ Ow F T0 (penv N.length ns) (some (V.ref a) :: some (.ref p) :: List.replicate (N.length - 2) none) q := by
    rintro (h | h | h)
    · exact h
    · exact h
    · exact pq (wr q h).symm
  have S : StOk K F T0 H' (penv N.length ns) (some (V.ref a) :: some (.ref p) :: List.replicate (N.length - 2) none) := by
    refine ⟨by simp [penv], fun i d e => ?_, fun i q' m e => ?_, fun i j p1 q1 m n a e1 e2 s1 s2 => ?_, x, fun _ h => h.elim, fun _ h => h.elim, fun _ h => h.elim, fun _ h => h.elim⟩
    · have := (own_at i _ e).2; cases this
    · obtain ⟨rfl, hs⟩ := own_at i _ e
      cases hs
      exact ⟨p, rfl, ⟨_, hp, .cons (.lst hq ow (ints_rp ns)) (.cons (.int 0) (.cons (.int 0) .nil))⟩, by simpa using np⟩
    · rw [(own_at i _ e1).1, (own_at j _ e2).1]
  refine hb F _ _ H' _ env' S he _ ?_
  rintro v σ' H2 ⟨_, r⟩
  exact Rp.scB r
end GD

namespace GD
open PySem PySem.Spec PyProof.Rows L2
section
variable {X : Cx} {CX : CXT} {k : Nat} {f : Addr} {fd : FuncData} {ps ks : List Str} {sp : Sp}
variable {E : XK} {x : Str} {p pos : Pos} {e : Expr} {es : List Expr} {t tk : TA} {kws : List Keyword}
variable {g : List Value → List Value → List Value} {gV : List V → List V → List V}
/-- f(e, .., k = v, ..) -/
theorem pe_callGK (F : FnG X.prog X.w X.K X.mg X.base CX k f fd ps sp) (hgd : X.A.guards = some []) (hr : Room k X.A) (hg : Gl X x)
    (hm : X.mg x = some (.ref f)) (hk : PySem.W.keepIn X.K (.ref f) = true) (hb : KBinds X.K fd ps ks g gV) (hx : Passes CX X E)
    (ha : PA X (e :: es) t) (hkw : PK X kws tk) (hall : (backToKw pos (keywordEach kws X.env)).all (·.1.isSome) = true := by rfl)
    (hks : (backToKw pos (keywordEach kws X.env)).filterMap (·.1) = ks := by rfl)
    (hdb : (x == ("__debug__" : Str)) = false := by decide)
    (he : starEach (e :: es) X.env = (false, eval e X.env) :: starEach es X.env := by rfl)
    (hpl : ((backTo pos (starEach (e :: es) X.env)).any (·.1) || (backToKw pos (keywordEach kws X.env)).any (·.1.isNone)) = false := by rfl) :
    PE X (.Call (.Name x p) (e :: es) kws pos) (tCallK sp gV E t tk) := by
  constructor
  intro pins s σ H Q I h
  refine wpAny_Call_Name_kw (ld_glob I hg hm ?_ hdb)
  refine PySem.W.callWith_KW (h₀ := X.base) I.ok.mod.kin hk hall (thn (ha.run pos pins s σ H _ I h) ?_) hpl he
  rintro us s1 ⟨vs, H1, I1, r, q⟩
  refine thn (hkw.run pos pins s1 σ H1 _ I1 q) ?_
  rintro ws s2 ⟨zs, H2, I2, rz, q2⟩
  refine ⟨I2.kIn, ?_⟩
  rw [hks]
  exact run_gk F hgd hr hb hx I2 r rz q2
/-- f(k = v, ..) -/
theorem pe_callGK0 (F : FnG X.prog X.w X.K X.mg X.base CX k f fd ps sp) (hgd : X.A.guards = some []) (hr : Room k X.A) (hg : Gl X x)
    (hm : X.mg x = some (.ref f)) (hk : PySem.W.keepIn X.K (.ref f) = true) (hb : KBinds X.K fd ps ks g gV) (hx : Passes CX X E)
    (hkw : PK X kws tk) (hall : (backToKw pos (keywordEach kws X.env)).all (·.1.isSome) = true := by rfl)
    (hks : (backToKw pos (keywordEach kws X.env)).filterMap (·.1) = ks := by rfl)
    (hdb : (x == ("__debug__" : Str)) = false := by decide)
    (hpl : ((backTo pos (starEach [] X.env)).any (·.1) || (backToKw pos (keywordEach kws X.env)).any (·.1.isNone)) = false := by rfl) :
    PE X (.Call (.Name x p) [] kws pos) (tCallK sp gV E tNil tk) := by
  constructor
  intro pins s σ H Q I h
  refine wpAny_Call_Name_kw (ld_glob I hg hm ?_ hdb)
  refine PySem.W.callWith_KW0 (h₀ := X.base) I.ok.mod.kin hk hall (thn (hkw.run pos pins s σ H _ I h) ?_) hpl
  rintro ws s2 ⟨zs, H2, I2, rz, q2⟩
  refine ⟨I2.kIn, ?_⟩
  rw [hks]
  exact run_gk (us := []) (vs := []) F hgd hr hb hx I2 .nil rz q2
end
/-- keywords in the parameters' order behind the positional arguments -/
def appV : List V → List V → List V := fun a b => a ++ b
def appR : List R → List R → List R := fun a b => a ++ b
theorem appR_ok {K : PySem.W.Frag} {F : Frm} {T : Addr → Prop} {H : Hp} {env : En} {σ : L2.St} : ∀ {vs us : List V} {l w : List R}, RvAll K F T H env σ vs l → RvAll K F T H env σ us w → RvAll K F T H env σ (appV vs us) (appR l w)
  | [], _, [], _, _, h => h
  | _ :: _, _, _ :: _, _, h, q => ⟨h.1, appR_ok (vs := _) h.2 q⟩
  | [], _, _ :: _, _, h, _ => h.elim
  | _ :: _, _, [], _, h, _ => h.elim
theorem kb_app {K : PySem.W.Frag} {x qual : Str} {st : Stmt} {f : Addr} {fd : FuncData} {ps ks : List Str} (F : Fun K x qual st f fd)
    (h : ∀ (kV doc pm : Value) (an : Option Addr) (cdv ct : Value) (us ws : List Value), (us ++ ws).length = ps.length → bindArgs (PySem.W.fnOf x qual (defArgs st) (defBody st) (defScope st) .none kV doc pm an cdv ct) ⟨us, ks.zip ws⟩ = pure (ps.zip (us ++ ws))) :
    KBinds K fd ps ks (fun a b => a ++ b) appV := by
  obtain ⟨oc, od, kV, doc, pm, an, cdv, ct, osl, rfl, lk, hcd⟩ := F.ex
  exact ⟨fun s us ws _ hl => .of_eq (h kV doc pm an cdv ct us ws hl), fun r q => Vals.append r q⟩
theorem lenK {a b c : Nat} {fl fk : EvA} (h : lenOk a fl) (h' : lenOk b fk) (e : a + b = c) : ∀ env l e1 w e2, fl env = some (l, e1) → fk e1 = some (w, e2) → (appR l w).length = c := fun env l e1 w e2 p q => by
  unfold appR
  rw [List.length_append, h _ _ _ p, h' _ _ _ q, e]
end GD

namespace GD
open PySem PySem.Spec PyProof.Rows L2
/-- of a dict's data: what is said of it where it is no error -/
def exN (kvs : List (D × D)) (b : Bool) : Option Bool := if isExc (.dict kvs) = true then none else some b
theorem exN_ok {kvs : List (D × D)} {b c : Bool} (h : exN kvs b = some c) : isExc (.dict kvs) = false ∧ c = b := by
  unfold exN at h
  split at h
  · cases h
  · rename_i n
    exact ⟨by simpa using n, (Option.some.inj h).symm⟩
def kIs_str : D → Option Bool
  | .str _ => some true
  | .dict kvs => exN kvs false
  | _ => some false
def kIs_list : D → Option Bool
  | .list _ => some true
  | .dict kvs => exN kvs false
  | _ => some false
def kIs_tuple : D → Option Bool
  | .tuple _ => some true
  | .dict kvs => exN kvs false
  | _ => some false
def kIs_dict : D → Option Bool
  | .dict kvs => exN kvs true
  | _ => some false
def kIs_int : D → Option Bool
  | .int _ => some true
  | .bool _ => some true
  | .dict kvs => exN kvs false
  | _ => some false
def kIs_bool : D → Option Bool
  | .bool _ => some true
  | .dict kvs => exN kvs false
  | _ => some false
section
variable {K : PySem.W.Frag}
theorem kis_str : ∀ d b, kIs_str d = some b → isExc d = false ∧ PySem.W.kitOne K (.type (tyName d)) (.type "str") = some b := by
  intro d b h
  cases d <;> first
    | (cases h; exact ⟨rfl, by kernel_rfl⟩)
    | (obtain ⟨h1, rfl⟩ := exN_ok h; exact ⟨h1, by kernel_rfl⟩)
theorem kis_list : ∀ d b, kIs_list d = some b → isExc d = false ∧ PySem.W.kitOne K (.type (tyName d)) (.type "list") = some b := by
  intro d b h
  cases d <;> first
    | (cases h; exact ⟨rfl, by kernel_rfl⟩)
    | (obtain ⟨h1, rfl⟩ := exN_ok h; exact ⟨h1, by kernel_rfl⟩)
theorem kis_tuple : ∀ d b, kIs_tuple d = some b → isExc d = false ∧ PySem.W.kitOne K (.type (tyName d)) (.type "tuple") = some b := by
  intro d b h
  cases d <;> first
    | (cases h; exact ⟨rfl, by kernel_rfl⟩)
    | (obtain ⟨h1, rfl⟩ := exN_ok h; exact ⟨h1, by kernel_rfl⟩)
theorem kis_dict : ∀ d b, kIs_dict d = some b → isExc d = false ∧ PySem.W.kitOne K (.type (tyName d)) (.type "dict") = some b := by
  intro d b h
  cases d <;> first
    | (cases h; exact ⟨rfl, by kernel_rfl⟩)
    | (obtain ⟨h1, rfl⟩ := exN_ok h; exact ⟨h1, by kernel_rfl⟩)
theorem kis_int : ∀ d b, kIs_int d = some b → isExc d = false ∧ PySem.W.kitOne K (.type (tyName d)) (.type "int") = some b := by
  intro d b h
  cases d <;> first
    | (cases h; exact ⟨rfl, by kernel_rfl⟩)
    | (obtain ⟨h1, rfl⟩ := exN_ok h; exact ⟨h1, by kernel_rfl⟩)
theorem kis_bool : ∀ d b, kIs_bool d = some b → isExc d = false ∧ PySem.W.kitOne K (.type (tyName d)) (.type "bool") = some b := by
  intro d b h
  cases d <;> first
    | (cases h; exact ⟨rfl, by kernel_rfl⟩)
    | (obtain ⟨h1, rfl⟩ := exN_ok h; exact ⟨h1, by kernel_rfl⟩)
theorem room65 {k : Nat} {A : Around} (hr : Room k A) : A.units + 65 < cLine := by have := hr.un; omega
theorem pe_gint {X : Cx} {x : Str} {i : Int} {t : Tok} {pos : Pos} (hg : Gl X x) (hm : X.mg x = some (.int i t)) (hd : (x == ("__debug__" : Str)) = false := by decide) : PE X (.Name x pos) (tC (.int i)) := pe_glob hg hm ⟨t, rfl⟩ hd
theorem pe_gstr {X : Cx} {x : Str} {i : Str} {t : Tok} {pos : Pos} (hg : Gl X x) (hm : X.mg x = some (.str i t)) (hd : (x == ("__debug__" : Str)) = false := by decide) : PE X (.Name x pos) (tC (.str i)) := pe_glob hg hm ⟨t, rfl⟩ hd
theorem pe_bty {X : Cx} (Ty : String) {x : Str} {pos : Pos} (hg : Gl X x) (hm : X.mg x = none) (hv : bootBuiltins x = some (.type Ty)) (hn : x ≠ "__name__" := by decide) (hd : (x == ("__debug__" : Str)) = false := by decide) : PE X (.Name x pos) (tC (.ty Ty)) := pe_bltn hg hm hv rfl hn hd
/-! xs.pop() -/
def gPop : Mu → List D → Option (Mu × D)
  | .l ds, [] => (ds[ds.length - 1]?).map fun d => (.l ds.dropLast, d)
  | _, _ => none
theorem RpAll.dropLast {O : Addr → Prop} {H : Hp} {vs : List V} {ds : List D} (r : RpAll K O H vs ds) : RpAll K O H vs.dropLast ds.dropLast := by
  rw [List.dropLast_eq_take, List.dropLast_eq_take, r.length]
  exact r.take _
theorem md_pop : MtD K "list" rPop gPop := by
  intro O H a m vs ds m' z ha mu r hz Q q
  match m, ds, hz, r with
  | .l es, [], hz, .nil =>
    simp only [gPop, Option.map_eq_some_iff] at hz
    obtain ⟨d, hd, h⟩ := hz
    cases h
    obtain ⟨xs, e, rr⟩ := mu
    obtain ⟨v, hv, rv⟩ := rr.get hd
    have k : ∀ b u, ¬ O b → H b = some u → upd H a (.lst xs.dropLast) b = some u := fun b u n q => by rw [upd_ne (fun z => n (by subst z; exact ha))]; exact q
    exact ⟨a, xs, v, rfl, rfl, e, by rw [rr.length]; exact hv, q _ _ ⟨_, upd_same, rr.dropLast.tr (fun _ _ _ n => n) k⟩ (rv.tr (fun _ _ _ n => n) k)⟩
end
end GD

namespace GD
open PySem PySem.Spec PyProof.Rows L2
/-! meanings reckoned from the left: each combinator as a step on what its part gave -/
section
variable {env e env' : En} {f g : EvS} {fe fa fb fc : EvE} {fx fy : EvX} {fm : EvM} {ft fu : EvT} {fl : EvA} {d d' z : D} {r r' : R} {b : Bool} {m : Mu} {ds es : List D} {l : List R} {x : Sum R Mu} {i j : Nat} {s : Sl} {o : Option Sl}
theorem sl_0 {l : En} : slOf (o :: l) 0 = o := by unfold slOf; simp
theorem sl_s {l : En} : slOf (o :: l) (i + 1) = slOf l i := by unfold slOf; simp
def seqR : Option (Fl × En) → EvS → Option (Fl × En)
  | some (.nx, e), g => g e
  | some (.bk, e), _ => some (.bk, e)
  | some (.ct, e), _ => some (.ct, e)
  | some (.rt r, e), _ => some (.rt r, e)
  | none, _ => none
theorem q_seq : sSeq f g env = seqR (f env) g := by
  unfold sSeq; cases h : f env with
  | none => rfl
  | some p => obtain ⟨fl, e⟩ := p; cases fl <;> rfl
theorem q_seq1 : seqR (some (.nx, e)) g = g e := rfl
theorem q_seq2 {q : Ret} : seqR (some (.rt q, e)) g = some (.rt q, e) := rfl
theorem q_seq3 : seqR (some (.bk, e)) g = some (.bk, e) := rfl
theorem q_seq4 : seqR (some (.ct, e)) g = some (.ct, e) := rfl
theorem q_next : sNext env = some (.nx, env) := rfl
theorem q_break : sBreak env = some (.bk, env) := rfl
theorem q_cont : sCont env = some (.ct, env) := rfl
theorem q_retN : sRetN env = some (.rt (.val .none), env) := rfl
def ifR : Option (Bool × En) → EvS → EvS → Option (Fl × En)
  | some (true, e), f, _ => f e
  | some (false, e), _, g => g e
  | none, _, _ => none
theorem q_if : sIf ft f g env = ifR (ft env) f g := by
  unfold sIf; cases h : ft env with
  | none => rfl
  | some p => obtain ⟨b, e⟩ := p; cases b <;> rfl
theorem q_if1 : ifR (some (true, e)) f g = f e := rfl
theorem q_if2 : ifR (some (false, e)) f g = g e := rfl
def setR (i : Nat) : Option (Sum R Mu × En) → Option (Fl × En)
  | some (.inl r, e) => (rk e r).map fun d => (.nx, e.set i (some (.shr d)))
  | some (.inr m, e) => some (.nx, e.set i (some (.own false m)))
  | none => none
theorem q_set : sSetX i fx env = setR i (fx env) := by
  unfold sSetX; cases h : fx env with
  | none => rfl
  | some p => obtain ⟨x, e⟩ := p; cases x <;> rfl
theorem q_set1 : setR i (some (.inl (.val d), e)) = some (.nx, e.set i (some (.shr d))) := rfl
theorem q_set2 : setR i (some (.inr m, e)) = some (.nx, e.set i (some (.own false m))) := rfl
theorem q_set3 : setR i (some (.inl (.slot j), e)) = (rk e (.slot j)).map fun d => (.nx, e.set i (some (.shr d))) := rfl
def retR2 (e : En) : Option Sl → Option (Fl × En)
  | some (.shr d) => some (.rt (.val d), e)
  | some (.own false m) => some (.rt (.new m), e)
  | _ => none
def retR : Option (Sum R Mu × En) → Option (Fl × En)
  | some (.inl (.val d), e) => some (.rt (.val d), e)
  | some (.inl (.slot i), e) => retR2 e (slOf e i)
  | some (.inr m, e) => some (.rt (.new m), e)
  | none => none
theorem q_ret : sRetX fx env = retR (fx env) := by
  unfold sRetX; cases h : fx env with
  | none => rfl
  | some p =>
    obtain ⟨x, e⟩ := p
    cases x with
    | inr m => rfl
    | inl r =>
      cases r with
      | val d => rfl
      | slot i =>
        simp only [Option.bind_some, retR]
        cases hs : slOf e i with
        | none => rfl
        | some s => cases s with
          | shr d => rfl
          | own p m => cases p <;> rfl
theorem q_ret1 : retR (some (.inl (.val d), e)) = some (.rt (.val d), e) := rfl
theorem q_ret2 : retR (some (.inl (.slot i), e)) = retR2 e (slOf e i) := rfl
theorem q_ret3 : retR (some (.inr m, e)) = some (.rt (.new m), e) := rfl
theorem q_ret4 : retR2 e (some (.shr d)) = some (.rt (.val d), e) := rfl
theorem q_ret5 : retR2 e (some (.own false m)) = some (.rt (.new m), e) := rfl
def dropR : Option (R × En) → Option (Fl × En)
  | some (_, e) => some (.nx, e)
  | none => none
theorem q_drop : sDrop fe env = dropR (fe env) := by unfold sDrop; cases fe env <;> rfl
theorem q_drop1 : dropR (some (r, e)) = some (.nx, e) := rfl
/-- a pair of the value stored and the place -/
def putR2 (gp : Mu → D → D → Option Mu) (i : Nat) (r : R) (e0 : En) : Option (R × En) → Option (Fl × En)
  | some (k, e) => (rk e r).bind fun d => (rk e k).bind fun kd => (ownOf e0 i).bind fun _ => (ownOf e i).bind fun o => (gp o.2 kd d).map fun m => (.nx, e.set i (some (.own o.1 m)))
  | none => none
def putR (gp : Mu → D → D → Option Mu) (i : Nat) (fk : EvE) : Option (R × En) → Option (Fl × En)
  | some (r, e) => putR2 gp i r e (fk e)
  | none => none
variable {gp : Mu → D → D → Option Mu} {fk : EvE}
theorem q_put : sPut gp i fk fe env = putR gp i fk (fe env) := by
  unfold sPut; cases h : fe env with
  | none => rfl
  | some p =>
    simp only [Option.bind_some, putR]
    cases h2 : fk p.2 <;> rfl
theorem q_put1 : putR gp i fk (some (r, e)) = putR2 gp i r e (fk e) := rfl
theorem q_put2 {k : D} {e0 : En} : putR2 gp i (.val d) e0 (some (.val k, e)) = (ownOf e0 i).bind fun _ => (ownOf e i).bind fun o => (gp o.2 k d).map fun m => (.nx, e.set i (some (.own o.1 m))) := rfl
theorem q_own {p : Bool} (h : slOf env i = some (.own p m)) : ownOf env i = some (p, m) := by unfold ownOf; rw [h]
theorem q_own0 {p : Bool} {l : En} : ownOf (some (.own p m) :: l) 0 = some (p, m) := q_own sl_0
theorem q_ownS {l : En} : ownOf (o :: l) (i + 1) = ownOf l i := by unfold ownOf; rw [sl_s]
def asgR (tg : D → En → Option En) : Option (R × En) → Option (Fl × En)
  | some (r, e) => (rk e r).bind fun d => (tg d e).map fun e => (.nx, e)
  | none => none
variable {tg : D → En → Option En}
theorem q_asg : sAsg tg fe env = asgR tg (fe env) := by unfold sAsg; cases h : fe env <;> rfl
theorem q_asg1 : asgR tg (some (.val d, e)) = (tg d e).map fun e => (.nx, e) := rfl
theorem q_gN : gN i d env = some (env.set i (some (.shr d))) := rfl
theorem q_gT {n : Nat} {ff : List D → En → Option En} (h : ds.length = n) : gT n ff (.tuple ds) env = ff ds env := by
  show (if ds.length = n then ff ds env else none) = _; rw [if_pos h]
theorem q_gs0 : gsNil [] env = some env := rfl
theorem q_gs1 {ff : List D → En → Option En} : gsCons (gN i) ff (d :: ds) env = ff ds (env.set i (some (.shr d))) := rfl
def augR (gg : D → D → Option D) (i : Nat) : Option Sl → Option (R × En) → Option (Fl × En)
  | some (.shr d), some (r, e) => (rs e r).bind fun y => (gg d y).map fun z => (.nx, e.set i (some (.shr z)))
  | _, _ => none
variable {gg : D → D → Option D}
theorem q_aug : sAug gg i fe env = augR gg i (slOf env i) (fe env) := by
  unfold sAug; cases h : fe env with
  | none => cases slOf env i with
    | none => rfl
    | some s => cases s <;> rfl
  | some p => cases slOf env i with
    | none => rfl
    | some s => cases s <;> rfl
theorem q_aug1 : augR gg i (some (.shr d)) (some (.val d', e)) = (gg d d').map fun z => (.nx, e.set i (some (.shr z))) := rfl
def forR (tg : D → En → Option En) (f : EvS) : Option (List D × En) → Option (Fl × En)
  | some (ds, e) => forE tg f ds e
  | none => none
variable {fw : EvW}
theorem q_for : sFor fw tg f env = forR tg f (fw env) := by unfold sFor; cases h : fw env <;> rfl
theorem q_for1 : forR tg f (some (ds, e)) = forE tg f ds e := rfl
theorem q_for0 : forE tg f [] env = some (.nx, env) := rfl
def forK (tg : D → En → Option En) (f : EvS) (ds : List D) : Option (Fl × En) → Option (Fl × En)
  | some (.nx, e) => forE tg f ds e
  | some (.ct, e) => forE tg f ds e
  | some (.bk, e) => some (.nx, e)
  | some (.rt r, e) => some (.rt r, e)
  | none => none
def forB (tg : D → En → Option En) (f : EvS) (ds : List D) : Option En → Option (Fl × En)
  | some e => forK tg f ds (f e)
  | none => none
theorem q_forc : forE tg f (d :: ds) env = forB tg f ds (tg d env) := by
  unfold forE; cases h : tg d env with
  | none => rfl
  | some e =>
    simp only [Option.bind_some, forB]
    cases h2 : f e with
    | none => rfl
    | some p => obtain ⟨fl, e2⟩ := p; cases fl <;> rfl
theorem q_forb : forB tg f ds (some e) = forK tg f ds (f e) := rfl
theorem q_fork1 : forK tg f ds (some (.nx, e)) = forE tg f ds e := rfl
theorem q_fork2 : forK tg f ds (some (.ct, e)) = forE tg f ds e := rfl
theorem q_fork3 : forK tg f ds (some (.bk, e)) = some (.nx, e) := rfl
theorem q_fork4 {q : Ret} : forK tg f ds (some (.rt q, e)) = some (.rt q, e) := rfl
def whR (c : EvT) (b : EvS) (n : Nat) : Option (Fl × En) → Option (Fl × En)
  | some (.nx, e) => whE c b n e
  | some (.ct, e) => whE c b n e
  | some (.bk, e) => some (.nx, e)
  | some (.rt r, e) => some (.rt r, e)
  | none => none
def whT (c : EvT) (b : EvS) (n : Nat) : Option (Bool × En) → Option (Fl × En)
  | some (true, e) => whR c b n (b e)
  | some (false, e) => some (.nx, e)
  | none => none
theorem q_wh {n : Nat} : whE ft f (n + 1) env = whT ft f n (ft env) := by
  unfold whE; cases h : ft env with
  | none => rfl
  | some p =>
    obtain ⟨b, e⟩ := p
    cases b with
    | false => rfl
    | true =>
      simp only [Option.bind_some, if_true, whT]
      cases h2 : f e with
      | none => rfl
      | some p => obtain ⟨fl, e2⟩ := p; cases fl <;> rfl
theorem q_wh1 {n : Nat} : whT ft f n (some (true, e)) = whR ft f n (f e) := rfl
theorem q_wh2 {n : Nat} : whT ft f n (some (false, e)) = some (.nx, e) := rfl
theorem q_wh3 {n : Nat} : whR ft f n (some (.nx, e)) = whE ft f n e := rfl
theorem q_wh4 {n : Nat} {q : Ret} : whR ft f n (some (.rt q, e)) = some (.rt q, e) := rfl
/-! expressions -/
def varR (env : En) (i : Nat) : Option Sl → Option (R × En)
  | some (.shr d) => some (.val d, env)
  | some (.own _ _) => some (.slot i, env)
  | none => none
theorem q_var : eVar i env = varR env i (slOf env i) := by
  unfold eVar varR; cases slOf env i with
  | none => rfl
  | some s => cases s <;> rfl
theorem q_var1 : varR env i (some (.shr d)) = some (.val d, env) := rfl
theorem q_var2 {p : Bool} : varR env i (some (.own p m)) = some (.slot i, env) := rfl
def giveR (env : En) (i : Nat) : Option Sl → Option (R × En)
  | some (.shr d) => some (.val d, env)
  | some (.own false m) => some (.val m.toD, env.set i (some (.shr m.toD)))
  | _ => none
theorem q_give : eGive i env = giveR env i (slOf env i) := by
  unfold eGive giveR; cases slOf env i with
  | none => rfl
  | some s => cases s with
    | shr d => rfl
    | own p m => cases p <;> rfl
theorem q_give1 : giveR env i (some (.shr d)) = some (.val d, env) := rfl
theorem q_give2 : giveR env i (some (.own false m)) = some (.val m.toD, env.set i (some (.shr m.toD))) := rfl
theorem q_toL : (Mu.l ds).toD = .list ds := rfl
theorem q_c : eC d env = some (.val d, env) := rfl
theorem q_rsv : rs env (.val d) = some d := rfl
def rsR : Option Sl → Option D
  | some (.own _ m) => some m.toD
  | some (.shr d) => some d
  | none => none
theorem q_rss : rs env (.slot i) = rsR (slOf env i) := by
  cases h : slOf env i with
  | none => simp [rs, rsR, h]
  | some s => cases s <;> simp [rs, rsR, h]
theorem q_rss1 {p : Bool} : rsR (some (.own p m)) = some m.toD := rfl
theorem q_rss2 : rsR (some (.shr d)) = some d := rfl
theorem q_rkv : rk env (.val d) = some d := rfl
def eXR : Option (Sum R Mu × En) → Option (R × En)
  | some (.inl r, e) => some (r, e)
  | some (.inr m, e) => some (.val m.toD, e)
  | none => none
theorem q_eX : eX fx env = eXR (fx env) := by
  unfold eX; cases h : fx env with
  | none => rfl
  | some p => obtain ⟨x, e⟩ := p; cases x <;> rfl
theorem q_eX1 : eXR (some (.inl r, e)) = some (r, e) := rfl
theorem q_eX2 : eXR (some (.inr m, e)) = some (.val m.toD, e) := rfl
def xER : Option (R × En) → Option (Sum R Mu × En)
  | some (r, e) => some (.inl r, e)
  | none => none
theorem q_xE : xE fe env = xER (fe env) := by unfold xE; cases fe env <;> rfl
theorem q_xE1 : xER (some (r, e)) = some (.inl r, e) := rfl
def xMR : Option (Mu × En) → Option (Sum R Mu × En)
  | some (r, e) => some (.inr r, e)
  | none => none
theorem q_xM : xM fm env = xMR (fm env) := by unfold xM; cases fm env <;> rfl
theorem q_xM1 : xMR (some (m, e)) = some (.inr m, e) := rfl
def e1R2 (e : En) : Option D → Option (D × En)
  | some d => some (d, e)
  | none => none
def e1R : Option (R × En) → Option (D × En)
  | some (r, e) => e1R2 e (rs e r)
  | none => none
theorem q_e1 : e1 fa env = e1R (fa env) := by
  unfold e1; cases h : fa env with
  | none => rfl
  | some p => simp only [Option.bind_some, e1R]; cases rs p.2 p.1 <;> rfl
theorem q_e11 : e1R (some (r, e)) = e1R2 e (rs e r) := rfl
theorem q_e12 : e1R2 e (some d) = some (d, e) := rfl
def e2R3 (e : En) : Option D → Option D → Option (D × D × En)
  | some d, some d' => some (d, d', e)
  | _, _ => none
def e2R2 (r : R) : Option (R × En) → Option (D × D × En)
  | some (r', e) => e2R3 e (rs e r) (rs e r')
  | none => none
def e2R (fb : EvE) : Option (R × En) → Option (D × D × En)
  | some (r, e) => e2R2 r (fb e)
  | none => none
theorem q_e2 : e2 fa fb env = e2R fb (fa env) := by
  unfold e2; cases h : fa env with
  | none => rfl
  | some p =>
    simp only [Option.bind_some, e2R]
    cases h2 : fb p.2 with
    | none => rfl
    | some q => simp only [Option.bind_some, e2R2]; cases rs q.2 p.1 <;> cases rs q.2 q.1 <;> rfl
theorem q_e21 : e2R fb (some (r, e)) = e2R2 r (fb e) := rfl
theorem q_e22 : e2R2 r (some (r', e)) = e2R3 e (rs e r) (rs e r') := rfl
theorem q_e23 : e2R3 e (some d) (some d') = some (d, d', e) := rfl
def vR (e : En) : Option D → Option (R × En)
  | some d => some (.val d, e)
  | none => none
theorem q_v : vR e (some d) = some (.val d, e) := rfl
def opR (gg : D → D → Option D) : Option (D × D × En) → Option (R × En)
  | some (d, d', e) => vR e (gg d d')
  | none => none
theorem q_op : eOp gg fa fb env = opR gg (e2 fa fb env) := by
  unfold eOp; cases h : e2 fa fb env with
  | none => rfl
  | some p => simp only [Option.bind_some, opR]; cases gg p.1 p.2.1 <;> rfl
theorem q_op1 : opR gg (some (d, d', e)) = vR e (gg d d') := rfl
def xopR2 (e : En) : Option (Sum D Mu) → Option (Sum R Mu × En)
  | some (.inl d) => some (.inl (.val d), e)
  | some (.inr m) => some (.inr m, e)
  | none => none
def xopR (gg : D → D → Option (Sum D Mu)) : Option (D × D × En) → Option (Sum R Mu × En)
  | some (d, d', e) => xopR2 e (gg d d')
  | none => none
variable {gx : D → D → Option (Sum D Mu)}
theorem q_xop : xOp gx fa fb env = xopR gx (e2 fa fb env) := by
  unfold xOp; cases h : e2 fa fb env with
  | none => rfl
  | some p =>
    simp only [Option.bind_some, xopR]
    cases gx p.1 p.2.1 with
    | none => rfl
    | some z => cases z <;> rfl
theorem q_xop1 : xopR gx (some (d, d', e)) = xopR2 e (gx d d') := rfl
theorem q_xop2 : xopR2 e (some (.inl d)) = some (.inl (.val d), e) := rfl
theorem q_xop3 : xopR2 e (some (.inr m)) = some (.inr m, e) := rfl
variable {g1 : D → Option D}
def unR (g1 : D → Option D) : Option (D × En) → Option (R × En)
  | some (d, e) => vR e (g1 d)
  | none => none
theorem q_un : eUn g1 fa env = unR g1 (e1 fa env) := by
  unfold eUn; cases h : e1 fa env with
  | none => rfl
  | some p => simp only [Option.bind_some, unR]; cases g1 p.1 <;> rfl
theorem q_un1 : unR g1 (some (d, e)) = vR e (g1 d) := rfl
def tvR : Option (D × En) → Option (Bool × En)
  | some (.bool b, e) => some (b, e)
  | _ => none
theorem q_tv : tVal fe env = tvR (e1 fe env) := by
  unfold tVal; cases h : e1 fe env with
  | none => rfl
  | some p => obtain ⟨d, e⟩ := p; cases d <;> rfl
theorem q_tv1 : tvR (some (.bool b, e)) = some (b, e) := rfl
def andR (fu : EvT) : Option (Bool × En) → Option (Bool × En)
  | some (true, e) => fu e
  | some (false, e) => some (false, e)
  | none => none
theorem q_and : tfAnd ft fu env = andR fu (ft env) := by
  unfold tfAnd; cases h : ft env with
  | none => rfl
  | some p => obtain ⟨b, e⟩ := p; cases b <;> rfl
theorem q_and1 : andR fu (some (true, e)) = fu e := rfl
theorem q_and2 : andR fu (some (false, e)) = some (false, e) := rfl
def orR (fu : EvT) : Option (Bool × En) → Option (Bool × En)
  | some (true, e) => some (true, e)
  | some (false, e) => fu e
  | none => none
theorem q_or : tfOr ft fu env = orR fu (ft env) := by
  unfold tfOr; cases h : ft env with
  | none => rfl
  | some p => obtain ⟨b, e⟩ := p; cases b <;> rfl
theorem q_or1 : orR fu (some (true, e)) = some (true, e) := rfl
theorem q_or2 : orR fu (some (false, e)) = fu e := rfl
def notR : Option (Bool × En) → Option (Bool × En)
  | some (b, e) => some (!b, e)
  | none => none
theorem q_not : tfNot ft env = notR (ft env) := by unfold tfNot; cases ft env <;> rfl
theorem q_not1 : notR (some (b, e)) = some (!b, e) := rfl
theorem q_yes : tYesE env = some (true, env) := rfl
def xifR (fx fy : EvX) : Option (Bool × En) → Option (Sum R Mu × En)
  | some (true, e) => fx e
  | some (false, e) => fy e
  | none => none
theorem q_xif : xIf ft fx fy env = xifR fx fy (ft env) := by
  unfold xIf; cases h : ft env with
  | none => rfl
  | some p => obtain ⟨b, e⟩ := p; cases b <;> rfl
theorem q_xif1 : xifR fx fy (some (true, e)) = fx e := rfl
theorem q_xif2 : xifR fx fy (some (false, e)) = fy e := rfl
def isNR (k : Bool) : Option (D × En) → Option (R × En)
  | some (d, e) => some (.val (.bool (if k then !isN d else isN d)), e)
  | none => none
theorem q_isN : eIsN fa env = isNR false (e1 fa env) := by unfold eIsN; cases e1 fa env <;> rfl
theorem q_notN : eNotN fa env = isNR true (e1 fa env) := by unfold eNotN; cases e1 fa env <;> rfl
theorem q_isN1 : isNR false (some (d, e)) = some (.val (.bool (isN d)), e) := rfl
theorem q_isN2 : isNR true (some (d, e)) = some (.val (.bool (!isN d)), e) := rfl
theorem q_n0 : isN .none = true := rfl
theorem q_n1 {k : Int} : isN (.int k) = false := rfl
theorem q_n2 {k : Str} : isN (.str k) = false := rfl
theorem q_n3 : isN (.list ds) = false := rfl
theorem q_n4 : isN (.tuple ds) = false := rfl
theorem q_n5 : isN (.bool b) = false := rfl
theorem q_nil : aNil env = some ([], env) := rfl
def consR2 (r : R) : Option (List R × En) → Option (List R × En)
  | some (l, e) => some (r :: l, e)
  | none => none
def consR (fl : EvA) : Option (R × En) → Option (List R × En)
  | some (r, e) => consR2 r (fl e)
  | none => none
theorem q_cons : aCons fa fl env = consR fl (fa env) := by
  unfold aCons; cases h : fa env with
  | none => rfl
  | some p => simp only [Option.bind_some, consR]; cases fl p.2 <;> rfl
theorem q_cons1 : consR fl (some (r, e)) = consR2 r (fl e) := rfl
theorem q_cons2 : consR2 r (some (l, e)) = some (r :: l, e) := rfl
def laR (e : En) : Option (List D) → Option (List D × En)
  | some ds => some (ds, e)
  | none => none
theorem q_la : laR e (some ds) = some (ds, e) := rfl
def eAR : Option (List R × En) → Option (List D × En)
  | some (l, e) => laR e (rsA e l)
  | none => none
theorem q_eA : eA fl env = eAR (fl env) := by
  unfold eA; cases h : fl env with
  | none => rfl
  | some p => simp only [Option.bind_some, eAR]; cases rsA p.2 p.1 <;> rfl
theorem q_eA1 : eAR (some (l, e)) = laR e (rsA e l) := rfl
def eKR : Option (List R × En) → Option (List D × En)
  | some (l, e) => laR e (rkA e l)
  | none => none
theorem q_eK : eK fl env = eKR (fl env) := by
  unfold eK; cases h : fl env with
  | none => rfl
  | some p => simp only [Option.bind_some, eKR]; cases rkA p.2 p.1 <;> rfl
theorem q_eK1 : eKR (some (l, e)) = laR e (rkA e l) := rfl
def lcR : Option D → Option (List D) → Option (List D)
  | some d, some ds => some (d :: ds)
  | _, _ => none
theorem q_lc : lcR (some d) (some ds) = some (d :: ds) := rfl
theorem q_rsA0 : rsA env [] = some [] := rfl
theorem q_rsA : rsA env (r :: l) = lcR (rs env r) (rsA env l) := by rw [rsA]; cases rs env r <;> cases rsA env l <;> rfl
theorem q_rkA0 : rkA env [] = some [] := rfl
theorem q_rkA : rkA env (r :: l) = lcR (rk env r) (rkA env l) := by rw [rkA]; cases rk env r <;> cases rkA env l <;> rfl
def tupR : Option (List D × En) → Option (R × En)
  | some (ds, e) => if small ds.length = true then some (.val (.tuple ds), e) else none
  | none => none
theorem q_tup : eTup fl env = tupR (eK fl env) := by unfold eTup; cases eK fl env <;> rfl
theorem q_tup1 (h : ds.length ≤ 1000000) : tupR (some (ds, e)) = some (.val (.tuple ds), e) := if_pos (decide_eq_true h)
def lstR : Option (List D × En) → Option (Mu × En)
  | some (ds, e) => if small ds.length = true then some (.l ds, e) else none
  | none => none
theorem q_lst : eLst fl env = lstR (eK fl env) := by unfold eLst; cases eK fl env <;> rfl
theorem q_lst1 (h : ds.length ≤ 1000000) : lstR (some (ds, e)) = some (.l ds, e) := if_pos (decide_eq_true h)
variable {gc : List D → Option D} {gm : List D → Option Mu}
def caR (gc : List D → Option D) : Option (List D × En) → Option (R × En)
  | some (ds, e) => vR e (gc ds)
  | none => none
theorem q_ca : eCa gc fl env = caR gc (eA fl env) := by
  unfold eCa; cases h : eA fl env with
  | none => rfl
  | some p => simp only [Option.bind_some, caR]; cases gc p.1 <;> rfl
theorem q_ca1 : caR gc (some (ds, e)) = vR e (gc ds) := rfl
def mR (e : En) : Option Mu → Option (Mu × En)
  | some m => some (m, e)
  | none => none
theorem q_m : mR e (some m) = some (m, e) := rfl
def camR (gm : List D → Option Mu) : Option (List D × En) → Option (Mu × En)
  | some (ds, e) => mR e (gm ds)
  | none => none
theorem q_cam : eCaM gm fl env = camR gm (eA fl env) := by
  unfold eCaM; cases h : eA fl env with
  | none => rfl
  | some p => simp only [Option.bind_some, camR]; cases gm p.1 <;> rfl
theorem q_cam1 : camR gm (some (ds, e)) = mR e (gm ds) := rfl
def isiR2 (e : En) : Option Bool → Option (R × En)
  | some b => some (.val (.bool b), e)
  | none => none
theorem q_isi2 : isiR2 e (some b) = some (.val (.bool b), e) := rfl
def isiR (k : D → Option Bool) : Option (D × En) → Option (R × En)
  | some (d, e) => isiR2 e (k d)
  | none => none
theorem q_isi {T : String} {k : D → Option Bool} : eIsi T k fe env = isiR k (e1 fe env) := by
  unfold eIsi; cases h : e1 fe env with
  | none => rfl
  | some p => simp only [Option.bind_some, isiR]; cases k p.1 <;> rfl
theorem q_isi1 {k : D → Option Bool} : isiR k (some (d, e)) = isiR2 e (k d) := rfl
/-! methods -/
variable {gt : Mu → List D → Option (Mu × D)}
def mtR3 (i : Nat) (p : Bool) (e : En) : Option (Mu × D) → Option (R × En)
  | some (m, z) => some (.val z, e.set i (some (.own p m)))
  | none => none
def mtR2 (gt : Mu → List D → Option (Mu × D)) (i : Nat) : Option (Bool × Mu) → Option (List D × En) → Option (R × En)
  | some (p, m), some (ds, e) => mtR3 i p e (gt m ds)
  | _, _ => none
def mtR (gt : Mu → List D → Option (Mu × D)) (i : Nat) : Option (List D × En) → Option (R × En)
  | some (ds, e) => mtR2 gt i (ownOf e i) (some (ds, e))
  | none => none
def mtR0 (Ty : String) (k : Option (R × En)) : Option (Bool × Mu) → Option (R × En)
  | some (_, m) => if tyM Ty m = true then k else none
  | none => none
theorem q_mt {Ty : String} : eMt Ty gt i fl env = mtR0 Ty (mtR gt i (eK fl env)) (ownOf env i) := by
  unfold eMt; cases h : ownOf env i with
  | none => rfl
  | some o =>
    obtain ⟨b, m⟩ := o
    show (if tyM Ty m = true then _ else none) = (if tyM Ty m = true then _ else none)
    congr 1
    cases h2 : eK fl env with
    | none => rfl
    | some p =>
      simp only [Option.bind_some, mtR]
      cases h3 : ownOf p.2 i with
      | none => rfl
      | some o => simp only [Option.bind_some, mtR2]; cases gt o.2 p.1 <;> rfl
theorem q_mt0 {k : Option (R × En)} {p : Bool} : mtR0 "list" k (some (p, .l ds)) = k := rfl
theorem q_mt1 : mtR gt i (some (ds, e)) = mtR2 gt i (ownOf e i) (some (ds, e)) := rfl
theorem q_mt2 {p : Bool} : mtR2 gt i (some (p, m)) (some (ds, e)) = mtR3 i p e (gt m ds) := rfl
theorem q_mt3 {p : Bool} : mtR3 i p e (some (m, z)) = some (.val z, e.set i (some (.own p m))) := rfl
def eBR2 (r : R) : Option (List R × En) → Option (D × List D × En)
  | some (l, e) => (rs e r).bind fun d => (rsA e l).map fun ds => (d, ds, e)
  | none => none
def eBR1 (Ty : String) (fl : EvA) (r : R) (e : En) : Option D → Option (D × List D × En)
  | some d => if tyOk Ty d = true then eBR2 r (fl e) else none
  | none => none
def eBR (Ty : String) (fl : EvA) : Option (R × En) → Option (D × List D × En)
  | some (r, e) => eBR1 Ty fl r e (rs e r)
  | none => none
theorem q_eB {Ty : String} : eB Ty fe fl env = eBR Ty fl (fe env) := by
  unfold eB; cases h : fe env with
  | none => rfl
  | some p =>
    simp only [Option.bind_some, eBR]
    cases h2 : rs p.2 p.1 with
    | none => rfl
    | some d =>
      simp only [Option.bind_some, eBR1]
      congr 1
      cases fl p.2 <;> rfl
theorem q_eB1 {Ty : String} : eBR Ty fl (some (r, e)) = eBR1 Ty fl r e (rs e r) := rfl
theorem q_eBs {y : Str} : eBR1 "str" fl r e (some (.str y)) = eBR2 r (fl e) := rfl
theorem q_eBl : eBR1 "list" fl r e (some (.list ds)) = eBR2 r (fl e) := rfl
def eBR3 (e : En) : Option D → Option (List D) → Option (D × List D × En)
  | some d, some ds => some (d, ds, e)
  | _, _ => none
theorem q_eB2 : eBR2 r (some (l, e)) = eBR3 e (rs e r) (rsA e l) := by
  show ((rs e r).bind fun d => Option.map (fun ds => (d, ds, e)) (rsA e l)) = _
  cases rs e r <;> cases rsA e l <;> rfl
theorem q_eB3 : eBR3 e (some d) (some ds) = some (d, ds, e) := rfl
variable {gb : D → List D → Option D} {gbm : D → List D → Option Mu}
def bmR (gb : D → List D → Option D) : Option (D × List D × En) → Option (R × En)
  | some (d, ds, e) => vR e (gb d ds)
  | none => none
theorem q_bm {Ty : String} : eBm Ty gb fe fl env = bmR gb (eB Ty fe fl env) := by
  unfold eBm; cases h : eB Ty fe fl env with
  | none => rfl
  | some p => simp only [Option.bind_some, bmR]; cases gb p.1 p.2.1 <;> rfl
theorem q_bm1 : bmR gb (some (d, ds, e)) = vR e (gb d ds) := rfl
def bmmR (gb : D → List D → Option Mu) : Option (D × List D × En) → Option (Mu × En)
  | some (d, ds, e) => mR e (gb d ds)
  | none => none
theorem q_bmm {Ty : String} : eBmM Ty gbm fe fl env = bmmR gbm (eB Ty fe fl env) := by
  unfold eBmM; cases h : eB Ty fe fl env with
  | none => rfl
  | some p => simp only [Option.bind_some, bmmR]; cases gbm p.1 p.2.1 <;> rfl
theorem q_bmm1 : bmmR gbm (some (d, ds, e)) = mR e (gbm d ds) := rfl
/-! calls -/
variable {M : FnS} {ss : List Sl} {outs : List (Option Mu)}
def cR3 (e : En) (l : List R) (ss : List Sl) : Option (Ret × List (Option Mu)) → Option (Sum R Mu × En)
  | some (q, outs) => if ouOk ss outs = true then (match q with | .val d => some (.inl (.val d), updO e l outs) | .new m => some (.inr m, updO e l outs)) else none
  | none => none
def cR2 (M : FnS) (e : En) (l : List R) : Option (List Sl) → Option (Sum R Mu × En)
  | some ss => if (ownSlots e l).Nodup then cR3 e l ss (M ss) else none
  | none => none
def cR (M : FnS) : Option (List R × En) → Option (Sum R Mu × En)
  | some (l, e) => cR2 M e l (slArgs e l)
  | none => none
theorem q_call : xCall M fl env = cR M (fl env) := by
  unfold xCall; cases h : fl env with
  | none => rfl
  | some p =>
    simp only [Option.bind_some, cR]
    cases slArgs p.2 p.1 with
    | none => rfl
    | some ss => simp only [Option.bind_some, cR2]; congr 1; cases M ss <;> rfl
theorem q_call1 : cR M (some (l, e)) = cR2 M e l (slArgs e l) := rfl
def cN (e : En) (l : List R) (ss : List Sl) (o : Option (Ret × List (Option Mu))) : Bool → Option (Sum R Mu × En)
  | true => cR3 e l ss o
  | false => none
def nd (l : List Nat) : Bool := decide l.Nodup
theorem q_call2 : cR2 M e l (some ss) = cN e l ss (M ss) (nd (ownSlots e l)) := by
  show (if (ownSlots e l).Nodup then cR3 e l ss (M ss) else none) = _
  by_cases h : (ownSlots e l).Nodup
  · rw [if_pos h, show nd (ownSlots e l) = true from decide_eq_true h]; rfl
  · rw [if_neg h, show nd (ownSlots e l) = false from decide_eq_false h]; rfl
theorem q_cN {o : Option (Ret × List (Option Mu))} : cN e l ss o true = cR3 e l ss o := rfl
theorem q_nd0 : nd [] = true := rfl
theorem q_nd1 : nd [i] = true := decide_eq_true (by simp)
def cO (q : Ret) (e : En) : Bool → Option (Sum R Mu × En)
  | true => match q with | .val d => some (.inl (.val d), e) | .new m => some (.inr m, e)
  | false => none
theorem q_call3 {q : Ret} : cR3 e l ss (some (q, outs)) = cO q (updO e l outs) (ouOk ss outs) := by
  show (if ouOk ss outs = true then _ else none) = _
  cases h : ouOk ss outs <;> cases q <;> rfl
theorem q_cO1 : cO (.val d) e true = some (.inl (.val d), e) := rfl
theorem q_cO2 : cO (.new m) e true = some (.inr m, e) := rfl
def ckR2 (M : FnS) (pm : List R → List R → List R) (l : List R) : Option (List R × En) → Option (Sum R Mu × En)
  | some (w, e) => cR2 M e (pm l w) (slArgs e (pm l w))
  | none => none
def ckR (M : FnS) (pm : List R → List R → List R) (fk : EvA) : Option (List R × En) → Option (Sum R Mu × En)
  | some (l, e) => ckR2 M pm l (fk e)
  | none => none
variable {pm : List R → List R → List R} {fkA : EvA}
theorem q_callK : xCallK M pm fl fkA env = ckR M pm fkA (fl env) := by
  unfold xCallK; cases h : fl env with
  | none => rfl
  | some p =>
    simp only [Option.bind_some, ckR]
    cases h2 : fkA p.2 with
    | none => rfl
    | some w =>
      simp only [Option.bind_some, ckR2]
      cases slArgs w.2 (pm p.1 w.1) with
      | none => rfl
      | some ss => simp only [Option.bind_some, cR2]; congr 1; cases M ss <;> rfl
theorem q_callK1 : ckR M pm fkA (some (l, e)) = ckR2 M pm l (fkA e) := rfl
theorem q_callK2 {w : List R} : ckR2 M pm l (some (w, e)) = cR2 M e (pm l w) (slArgs e (pm l w)) := rfl
theorem q_appR {w : List R} : appR l w = l ++ w := rfl
def slR : Option Sl → Option (List Sl) → Option (List Sl)
  | some (.own _ m), some l => some (.own true m :: l)
  | some (.shr d), some l => some (.shr d :: l)
  | _, _ => none
theorem q_sa0 : slArgs env [] = some [] := rfl
theorem q_sa1 : slArgs env (.val d :: l) = slR (some (.shr d)) (slArgs env l) := by rw [slArgs]; cases slArgs env l <;> rfl
theorem q_sa2 : slArgs env (.slot i :: l) = slR (slOf env i) (slArgs env l) := by
  rw [slArgs]; cases h : slOf env i with
  | none => rfl
  | some s => cases s <;> cases slArgs env l <;> rfl
theorem q_sa3 {ll : List Sl} {p : Bool} : slR (some (.own p m)) (some ll) = some (.own true m :: ll) := rfl
theorem q_sa4 {ll : List Sl} : slR (some (.shr d)) (some ll) = some (.shr d :: ll) := rfl
theorem q_os0 : ownSlots env [] = [] := rfl
theorem q_os1 : ownSlots env (.val d :: l) = ownSlots env l := rfl
def osR (i : Nat) (t : List Nat) : Option (Bool × Mu) → List Nat
  | some _ => i :: t
  | none => t
theorem q_os2 : ownSlots env (.slot i :: l) = osR i (ownSlots env l) (ownOf env i) := by rw [ownSlots]; cases ownOf env i <;> rfl
theorem q_os3 {t : List Nat} {p : Bool × Mu} : osR i t (some p) = i :: t := rfl
theorem q_ou0 : ouOk [] outs = true := by cases outs <;> rfl
theorem q_ou1 {o : Option Mu} : ouOk (.shr d :: ss) (o :: outs) = ouOk ss outs := rfl
theorem q_ou2 {p : Bool} {m' : Mu} : ouOk (.own p m :: ss) (some m' :: outs) = ouOk ss outs := rfl
theorem q_up0 : updO env [] outs = env := by cases outs <;> rfl
theorem q_up1 {o : Option Mu} : updO env (.val d :: l) (o :: outs) = updO env l outs := rfl
def upR (e : En) (i : Nat) (l : List R) (m : Mu) (outs : List (Option Mu)) : Option Sl → En
  | some (.own p _) => updO (e.set i (some (.own p m))) l outs
  | some (.shr _) => updO e l outs
  | none => updO e l outs
theorem q_up2 : updO env (.slot i :: l) (some m :: outs) = upR env i l m outs (slOf env i) := by
  rw [updO]; cases h : slOf env i with
  | none => rfl
  | some s => cases s <;> rfl
theorem q_up3 {p : Bool} {m0 : Mu} : upR env i l m outs (some (.own p m0)) = updO (env.set i (some (.own p m))) l outs := rfl
/-! comprehensions, walks -/
def cmR2 : Option (List D × En) → Option (Mu × En)
  | some (ds, e) => some (.l ds, e)
  | none => none
def cmR (vs : List Nat) (tg : D → En → Option En) (ft : EvT) (fe : EvE) : Option (List D × En) → Option (Mu × En)
  | some (ds, e) => cmR2 (compE vs tg ft fe ds [] (wipeE e vs))
  | none => none
theorem q_comp {vs : List Nat} : eComp vs fw tg ft fe env = cmR vs tg ft fe (fw env) := by
  unfold eComp; cases h : fw env with
  | none => rfl
  | some p => simp only [Option.bind_some, cmR]; cases compE vs tg ft fe p.1 [] (wipeE p.2 vs) <;> rfl
theorem q_comp1 {vs : List Nat} : cmR vs tg ft fe (some (ds, e)) = cmR2 (compE vs tg ft fe ds [] (wipeE e vs)) := rfl
theorem q_comp2 : cmR2 (some (ds, e)) = some (.l ds, e) := rfl
def cpK (vs : List Nat) (tg : D → En → Option En) (ft : EvT) (fe : EvE) (ds acc : List D) (e : En) : Option D → Option (List D × En)
  | some d => if small acc.length = true then compE vs tg ft fe ds (acc ++ [d]) (wipeE e vs) else none
  | none => none
def cpE (vs : List Nat) (tg : D → En → Option En) (ft : EvT) (fe : EvE) (ds acc : List D) : Option (R × En) → Option (List D × En)
  | some (r, e) => cpK vs tg ft fe ds acc e (rk e r)
  | none => none
def cpT (vs : List Nat) (tg : D → En → Option En) (ft : EvT) (fe : EvE) (ds acc : List D) : Option (Bool × En) → Option (List D × En)
  | some (true, e) => cpE vs tg ft fe ds acc (fe e)
  | some (false, e) => compE vs tg ft fe ds acc (wipeE e vs)
  | none => none
def cpG (vs : List Nat) (tg : D → En → Option En) (ft : EvT) (fe : EvE) (ds acc : List D) : Option En → Option (List D × En)
  | some e => cpT vs tg ft fe ds acc (ft e)
  | none => none
section
variable {vs : List Nat} {acc : List D}
theorem q_cp0 : compE vs tg ft fe [] acc env = some (acc, env) := rfl
theorem q_cpc : compE vs tg ft fe (d :: ds) acc env = cpG vs tg ft fe ds acc (tg d env) := by
  rw [compE]; cases h : tg d env with
  | none => rfl
  | some e =>
    simp only [Option.bind_some, cpG]
    cases h2 : ft e with
    | none => rfl
    | some p =>
      obtain ⟨b, e2⟩ := p
      cases b with
      | false => rfl
      | true =>
        simp only [Option.bind_some, cpT, if_true]
        cases h3 : fe e2 with
        | none => rfl
        | some q => simp only [Option.bind_some, cpE]; cases h4 : rk q.2 q.1 <;> rfl
theorem q_cpg : cpG vs tg ft fe ds acc (some e) = cpT vs tg ft fe ds acc (ft e) := rfl
theorem q_cpt : cpT vs tg ft fe ds acc (some (true, e)) = cpE vs tg ft fe ds acc (fe e) := rfl
theorem q_cpf : cpT vs tg ft fe ds acc (some (false, e)) = compE vs tg ft fe ds acc (wipeE e vs) := rfl
theorem q_cpe : cpE vs tg ft fe ds acc (some (r, e)) = cpK vs tg ft fe ds acc e (rk e r) := rfl
theorem q_cpk (h : acc.length ≤ 1000000) : cpK vs tg ft fe ds acc e (some d) = compE vs tg ft fe ds (acc ++ [d]) (wipeE e vs) := if_pos (decide_eq_true h)
end
theorem q_wi0 : wipeE env [] = env := rfl
theorem q_wi1 {v : Nat} {vs : List Nat} : wipeE env (v :: vs) = (wipeE env vs).set v none := rfl
def waR2 (e : En) : Option D → Option (List D × En)
  | some (.list ds) => some (ds, e)
  | some (.tuple ds) => some (ds, e)
  | some (.str x) => some (signs x, e)
  | _ => none
def waR : Option (R × En) → Option (List D × En)
  | some (r, e) => waR2 e (rk e r)
  | none => none
theorem q_wa : wAny fe env = waR (fe env) := by
  unfold wAny; cases h : fe env with
  | none => rfl
  | some p =>
    simp only [Option.bind_some, waR]
    cases rk p.2 p.1 with
    | none => rfl
    | some d => cases d <;> rfl
theorem q_wa1 : waR (some (r, e)) = waR2 e (rk e r) := rfl
theorem q_wa2 : waR2 e (some (.list ds)) = some (ds, e) := rfl
theorem q_wa3 : waR2 e (some (.tuple ds)) = some (ds, e) := rfl
theorem q_wa4 {y : Str} : waR2 e (some (.str y)) = some (signs y, e) := rfl
def r1R1 (e : En) : List D → Option (List D × En)
  | [.int j] => if okR j = true then some (rangeD 0 j.toNat, e) else none
  | _ => none
def r1R : Option (List D × En) → Option (List D × En)
  | some (l, e) => r1R1 e l
  | none => none
theorem q_r1 : wRng1 fl env = r1R (eA fl env) := by unfold wRng1; cases eA fl env <;> rfl
theorem q_r11 {k : Int} (h : -4611686018427387904 ≤ k) (h2 : k < 4611686018427387904) : r1R (some ([.int k], e)) = some (rangeD 0 k.toNat, e) := if_pos (decide_eq_true ⟨h, h2⟩)
def r2R2 (e : En) : List D → Option (List D × En)
  | [.int i, .int j] => if (okR i && okR j) = true then some (rangeD i (j - i).toNat, e) else none
  | _ => none
def r2R : Option (List D × En) → Option (List D × En)
  | some (l, e) => r2R2 e l
  | none => none
theorem q_r2 : wRng2 fl env = r2R (eA fl env) := by unfold wRng2; cases eA fl env <;> rfl
theorem q_r21 {i k : Int} (h : -4611686018427387904 ≤ k) (h2 : k < 4611686018427387904) (h3 : -4611686018427387904 ≤ i) (h4 : i < 4611686018427387904) : r2R (some ([.int i, .int k], e)) = some (rangeD i (k - i).toNat, e) :=
  if_pos (by rw [show okR i = true from decide_eq_true ⟨h3, h4⟩, show okR k = true from decide_eq_true ⟨h, h2⟩]; rfl)
/-! slices -/
theorem q_oN : oNone env = some (none, env) := rfl
def oSR : Option (D × En) → Option (Option Int × En)
  | some (.int i, e) => some (some i, e)
  | _ => none
theorem q_oS : oSome fe env = oSR (e1 fe env) := by
  unfold oSome; cases h : e1 fe env with
  | none => rfl
  | some p => obtain ⟨d, e⟩ := p; cases d <;> rfl
theorem q_oS1 {k : Int} : oSR (some (.int k, e)) = some (some k, e) := rfl
def slR4 (e : En) (lo hi : Option Int) : Option D → Option (Sum R Mu × En)
  | some d => match dSl d lo hi with
    | some z => some (.inl (.val z), e)
    | none => (dSlL d lo hi).map fun m => (.inr m, e)
  | none => none
def slR3 (r : R) (lo : Option Int) : Option (Option Int × En) → Option (Sum R Mu × En)
  | some (hi, e) => slR4 e lo hi (rs e r)
  | none => none
def slR2 (fh : EvO) (r : R) : Option (Option Int × En) → Option (Sum R Mu × En)
  | some (lo, e) => slR3 r lo (fh e)
  | none => none
def slR1 (fl fh : EvO) : Option (R × En) → Option (Sum R Mu × En)
  | some (r, e) => slR2 fh r (fl e)
  | none => none
variable {flo fhi : EvO}
theorem q_sl : xSl fe flo fhi env = slR1 flo fhi (fe env) := by
  unfold xSl e3; cases h : fe env with
  | none => rfl
  | some p =>
    simp only [Option.bind_some, slR1]
    cases h2 : flo p.2 with
    | none => rfl
    | some l =>
      simp only [Option.bind_some, slR2]
      cases h3 : fhi l.2 with
      | none => rfl
      | some u =>
        simp only [Option.bind_some, slR3]
        cases h4 : rs u.2 p.1 with
        | none => rfl
        | some d => simp only [Option.map_some, Option.bind_some, slR4] <;> rfl
theorem q_sl1 : slR1 flo fhi (some (r, e)) = slR2 fhi r (flo e) := rfl
theorem q_sl2 {lo : Option Int} : slR2 fhi r (some (lo, e)) = slR3 r lo (fhi e) := rfl
theorem q_sl3 {lo hi : Option Int} : slR3 r lo (some (hi, e)) = slR4 e lo hi (rs e r) := rfl
theorem q_slL {lo hi : Option Int} : slR4 e lo hi (some (.list ds)) = some (.inr (.l (cutD ds lo hi)), e) := rfl
theorem q_slT {lo hi : Option Int} : slR4 e lo hi (some (.tuple ds)) = some (.inl (.val (.tuple (cutD ds lo hi))), e) := rfl
theorem q_slS {lo hi : Option Int} {y : Str} (h : y.length ≤ 1000000) : slR4 e lo hi (some (.str y)) = some (.inl (.val (.str (cutS y lo hi))), e) := by
  have h2 : small y.length = true := decide_eq_true h
  simp [slR4, dSl, h2]
/-! f-strings -/
def joR : Option (Str × En) → Option (R × En)
  | some (y, e) => some (.val (.str y), e)
  | none => none
theorem q_jo {fs : List EvE} : eJoined fs env = joR (eJs fs Str.empty env) := by unfold eJoined; cases eJs fs Str.empty env <;> rfl
theorem q_jo1 {y : Str} : joR (some (y, e)) = some (.val (.str y), e) := rfl
theorem q_js0 {acc : Str} : eJs [] acc env = some (acc, env) := rfl
def jsR (fs : List EvE) (acc : Str) : Option (D × En) → Option (Str × En)
  | some (.str y, e) => if small (acc ++ y).length = true then eJs fs (acc ++ y) e else none
  | _ => none
theorem q_js {fs : List EvE} {acc : Str} : eJs (fa :: fs) acc env = jsR fs acc (e1 fa env) := by
  rw [eJs]; cases h : e1 fa env with
  | none => rfl
  | some p => obtain ⟨d, e⟩ := p; cases d <;> rfl
theorem q_js1 {fs : List EvE} {acc y : Str} (h : (acc ++ y).length ≤ 1000000) : jsR fs acc (some (.str y, e)) = eJs fs (acc ++ y) e := if_pos (decide_eq_true h)
def fmR : Option (D × En) → Option (R × En)
  | some (.str y, e) => if small y.length = true then some (.val (.str y), e) else none
  | some (.int i, e) => if i.natAbs.log2 < 1920 then some (.val (.str (toString i)), e) else none
  | _ => none
theorem q_fm : eFmt fe env = fmR (e1 fe env) := by
  unfold eFmt; cases h : e1 fe env with
  | none => rfl
  | some p => obtain ⟨d, e⟩ := p; cases d <;> rfl
theorem q_fm1 {y : Str} (h : y.length ≤ 1000000) : fmR (some (.str y, e)) = some (.val (.str y), e) := if_pos (decide_eq_true h)
theorem q_fm2 {k : Int} (h : k.natAbs.log2 < 1920) : fmR (some (.int k, e)) = some (.val (.str (toString k)), e) := if_pos h
/-! chains, and, or, not -/
def chR3 (e : En) : Option D → Option D → (D → D → Option D) → Option (R × En)
  | some d, some c, g2 => vR e (g2 d c)
  | _, _, _ => none
def chR2 (g2 : D → D → Option D) (r : R) : Option (R × En) → Option (R × En)
  | some (w, e) => chR3 e (rs e r) (rs e w) g2
  | none => none
def chR1 (g2 : D → D → Option D) (fc : EvE) (r : R) (e : En) : Option D → Option (R × En)
  | some (.bool true) => chR2 g2 r (fc e)
  | some (.bool false) => some (.val (.bool false), e)
  | _ => none
def chR0 (g1 g2 : D → D → Option D) (fc : EvE) (r r' : R) (e : En) : Option D → Option D → Option (R × En)
  | some d, some d' => chR1 g2 fc r' e (g1 d d')
  | _, _ => none
def chRb (g1 g2 : D → D → Option D) (fc : EvE) (r : R) : Option (R × En) → Option (R × En)
  | some (r', e) => chR0 g1 g2 fc r r' e (rs e r) (rs e r')
  | none => none
def chRa (g1 g2 : D → D → Option D) (fb fc : EvE) : Option (R × En) → Option (R × En)
  | some (r, e) => chRb g1 g2 fc r (fb e)
  | none => none
variable {h1 h2 : D → D → Option D}
theorem q_ch : eChain h1 h2 fa fb fc env = chRa h1 h2 fb fc (fa env) := by
  unfold eChain; cases ha : fa env with
  | none => rfl
  | some p =>
    simp only [Option.bind_some, chRa]
    cases hb : fb p.2 with
    | none => rfl
    | some q =>
      simp only [Option.bind_some, chRb]
      cases rs q.2 p.1 with
      | none => rfl
      | some d =>
        cases rs q.2 q.1 with
        | none => rfl
        | some d' =>
          simp only [Option.bind_some, chR0]
          cases h1 d d' with
          | none => rfl
          | some z =>
            cases z with
            | bool b =>
              cases b with
              | false => rfl
              | true =>
                simp only [chR1]
                cases fc q.2 with
                | none => rfl
                | some w =>
                  simp only [Option.bind_some, chR2]
                  cases rs w.2 q.1 with
                  | none => rfl
                  | some e' =>
                    cases rs w.2 w.1 with
                    | none => rfl
                    | some c => simp only [Option.bind_some, chR3]; cases h2 e' c <;> rfl
            | _ => rfl
theorem q_cha : chRa h1 h2 fb fc (some (r, e)) = chRb h1 h2 fc r (fb e) := rfl
theorem q_chb : chRb h1 h2 fc r (some (r', e)) = chR0 h1 h2 fc r r' e (rs e r) (rs e r') := rfl
theorem q_ch0 : chR0 h1 h2 fc r r' e (some d) (some d') = chR1 h2 fc r' e (h1 d d') := rfl
theorem q_ch1 : chR1 h2 fc r e (some (.bool true)) = chR2 h2 r (fc e) := rfl
theorem q_ch2 : chR1 h2 fc r e (some (.bool false)) = some (.val (.bool false), e) := rfl
theorem q_ch3 {w : R} : chR2 h2 r (some (w, e)) = chR3 e (rs e r) (rs e w) h2 := rfl
theorem q_ch4 : chR3 e (some d) (some d') h2 = vR e (h2 d d') := rfl
def landR (fb : EvE) : Option (D × En) → Option (R × En)
  | some (.bool true, e) => fb e
  | some (.bool false, e) => some (.val (.bool false), e)
  | _ => none
theorem q_land : eAnd fa fb env = landR fb (e1 fa env) := by
  unfold eAnd; cases h : e1 fa env with
  | none => rfl
  | some p =>
    obtain ⟨d, e⟩ := p
    cases d with
    | bool b => cases b <;> rfl
    | _ => rfl
theorem q_land1 : landR fb (some (.bool true, e)) = fb e := rfl
theorem q_land2 : landR fb (some (.bool false, e)) = some (.val (.bool false), e) := rfl
def lorR (fb : EvE) : Option (D × En) → Option (R × En)
  | some (.bool false, e) => fb e
  | some (.bool true, e) => some (.val (.bool true), e)
  | _ => none
theorem q_lor : eOr fa fb env = lorR fb (e1 fa env) := by
  unfold eOr; cases h : e1 fa env with
  | none => rfl
  | some p =>
    obtain ⟨d, e⟩ := p
    cases d with
    | bool b => cases b <;> rfl
    | _ => rfl
theorem q_lor1 : lorR fb (some (.bool true, e)) = some (.val (.bool true), e) := rfl
theorem q_lor2 : lorR fb (some (.bool false, e)) = fb e := rfl
def lnotR : Option (D × En) → Option (R × En)
  | some (.bool b, e) => some (.val (.bool (!b)), e)
  | _ => none
theorem q_lnot : eNot fa env = lnotR (e1 fa env) := by
  unfold eNot eUn; cases h : e1 fa env with
  | none => rfl
  | some p => obtain ⟨d, e⟩ := p; cases d <;> rfl
theorem q_lnot1 : lnotR (some (.bool b, e)) = some (.val (.bool (!b)), e) := rfl
/-! the operations -/
theorem c_sub {i j : Int} : dSub (.int i) (.int j) = some (.int (i - j)) := rfl
theorem c_lt {i j : Int} : dLt (.int i) (.int j) = some (.bool (decide (i < j))) := rfl
theorem c_le {i j : Int} : dLe (.int i) (.int j) = some (.bool (decide (i ≤ j))) := rfl
theorem c_gt {i j : Int} : dGt (.int i) (.int j) = some (.bool (decide (j < i))) := rfl
theorem c_ge {i j : Int} : dGe (.int i) (.int j) = some (.bool (decide (j ≤ i))) := rfl
theorem c_neg {i : Int} : dNeg (.int i) = some (.int (-i)) := rfl
theorem c_mod {i j : Int} (h : 0 < j) : dMod (.int i) (.int j) = some (.int (i % j)) := by simp [dMod, dI, h]
theorem c_div {i j : Int} (h : 0 < j) (h2 : j < 1073741824) : dDiv (.int i) (.int j) = some (.int (i / j)) := by simp [dDiv, dI, h, h2]
theorem c_pow {i j : Int} (h : 0 ≤ j) (h1 : j ≤ 1000000) (h2 : i.natAbs < 18446744073709551616) : dPow (.int i) (.int j) = some (.int (i ^ j.toNat)) := by simp [dPow, dI, h, h1, h2]
theorem c_mulL {i j : Int} (h : -18446744073709551616 < i) (h2 : i < 18446744073709551616) : dMul (.int i) (.int j) = some (.int (i * j)) := by simp [dMul, dI, h, h2]
theorem c_mulR {i j : Int} (h : -18446744073709551616 < j) (h2 : j < 18446744073709551616) : dMul (.int i) (.int j) = some (.int (i * j)) := by simp [dMul, dI, h, h2]
theorem c_eqI {i j : Int} : dEq (.int i) (.int j) = some (.bool (decide (i = j))) := rfl
theorem c_neI {i j : Int} : dNe (.int i) (.int j) = some (.bool (!decide (i = j))) := rfl
theorem c_eqT {i j : Str} : dEq (.str i) (.str j) = some (.bool (decide (i = j))) := rfl
theorem c_neT {i j : Str} : dNe (.str i) (.str j) = some (.bool (!decide (i = j))) := rfl
theorem c_eqS (h : sc d d' = false) (h1 : SeqAt.shaped d = true) (h2 : SeqAt.shaped d' = true) : dEq d d' = some (.bool (PyData.eqv d d')) := by simp [dEq, dEqB, h, h1, h2]
theorem c_neS (h : sc d d' = false) (h1 : SeqAt.shaped d = true) (h2 : SeqAt.shaped d' = true) : dNe d d' = some (.bool (!PyData.eqv d d')) := by simp [dNe, dEqB, h, h1, h2]
theorem c_scL : sc (.list ds) (.list es) = false := rfl
theorem c_scT : sc (.tuple ds) (.tuple es) = false := rfl
theorem c_eqL0 (h : SeqAt.shaped (.list ds) = true) : dEq (.list ds) (.list []) = some (.bool ds.isEmpty) := by
  rw [c_eqS rfl h (by decide)]; cases ds <;> simp [PyData.eqv, PyData.eqvAll]
theorem c_neL0 (h : SeqAt.shaped (.list ds) = true) : dNe (.list ds) (.list []) = some (.bool (!ds.isEmpty)) := by
  rw [c_neS rfl h (by decide)]; cases ds <;> simp [PyData.eqv, PyData.eqvAll]
theorem c_inL (h1 : SeqAt.shaped d = true) (h2 : SeqAt.shaped (.list ds) = true) : dIn d (.list ds) = some (.bool (ds.any fun z => PyData.eqv z d)) := by cases d <;> simp_all [dIn, dInB]
theorem c_inS {x y : Str} : dIn (.str x) (.str y) = some (.bool (!(Builtin.Str.occurrences y x 0 y.length 1).isEmpty)) := rfl
theorem c_repr (h : okShow d = true) : cRepr [d] = some (.str d.shown) := by simp [cRepr, h]
theorem c_addI {i j : Int} : dAddX (.int i) (.int j) = some (.inl (.int (i + j))) := rfl
theorem c_addS {x y : Str} (h : x.length + y.length ≤ 1000000) : dAddX (.str x) (.str y) = some (.inl (.str (x ++ y))) := by simp [dAddX, dAdd, small, h]
theorem c_addT (h : ds.length + es.length ≤ 1000000) : dAddX (.tuple ds) (.tuple es) = some (.inl (.tuple (ds ++ es))) := by simp [dAddX, dAdd, small, h]
theorem c_addL (h : ds.length + es.length ≤ 1000000) : dAddX (.list ds) (.list es) = some (.inr (.l (ds ++ es))) := by simp [dAddX, dAdd, dAddM, small, h]
theorem c_app (h : ds.length ≤ 1000000) : gApp (.l ds) [d] = some (.l (ds ++ [d]), .none) := by simp [gApp, small, h]
theorem c_strI {i : Int} (h : i.natAbs.log2 < 1920) : cStr [.int i] = some (.str (toString i)) := by simp [cStr, h]
theorem c_strS {y : Str} : cStr [.str y] = some (.str y) := rfl
theorem c_intI {i : Int} : cInt [.int i] = some (.int i) := rfl
theorem c_intB : cInt [.bool b] = some (.int (if b then 1 else 0)) := rfl
theorem c_intS {y : Str} {n : Int} (h : PySem.intText? y = some n) (h2 : y.length ≤ 640) : cInt [.str y] = some (.int n) := by simp [cInt, h, h2]
theorem c_abs {i : Int} : cAbs [.int i] = some (.int (if i < 0 then -i else i)) := rfl
theorem c_lenL : cLen [.list ds] = some (.int ds.length) := rfl
theorem c_lenT : cLen [.tuple ds] = some (.int ds.length) := rfl
theorem c_lenS {x : Str} (h : x.length ≤ 1000000) : cLen [.str x] = some (.int x.length) := by simp [cLen, small, h]
theorem c_listL : cList [.list ds] = some (.l ds) := rfl
theorem c_listT : cList [.tuple ds] = some (.l ds) := rfl
theorem c_tupL : cTuple [.list ds] = some (.tuple ds) := rfl
theorem c_tupT : cTuple [.tuple ds] = some (.tuple ds) := rfl
theorem c_ixL {i : Int} : dIx (.list ds) (.int i) = atI ds i := rfl
theorem c_ixT {i : Int} : dIx (.tuple ds) (.int i) = atI ds i := rfl
theorem c_ixS {i : Int} {y : Str} (h : y.length ≤ 1000000) : dIx (.str y) (.int i) = (atI y.cps.toList i).map fun c => .str ⟨#[c]⟩ := by simp [dIx, small, h]
theorem c_at {i : Int} (h : 0 ≤ i) (h2 : i < ds.length) : atI ds i = ds[i.toNat]? := by simp [atI, ixN, h, h2]
theorem c_set {i : Int} (h : 0 ≤ i) (h2 : i < ds.length) : gSetL (.l ds) (.int i) d = some (.l (ds.set i.toNat d)) := by simp [gSetL, ixN, h, h2]
theorem c_part {x y : Str} (h : y.length ≠ 0) (h2 : x.length ≤ 1000000) : mPart (.str x) [.str y] = some (.tuple [.str (Txt.partition x y).1, .str (Txt.partition x y).2.1, .str (Txt.partition x y).2.2]) := by simp [mPart, small, h, h2]
theorem c_split {x y : Str} (h : y.length ≠ 0) (h2 : x.length + 2 ≤ 1000000) : mSplit (.str x) [.str y] = some (.l ((Txt.split x y).map .str)) := by simp [mSplit, small, h, h2]
theorem strsOf_map (ys : List Str) : strsOf (ys.map .str) = some ys := by induction ys <;> simp_all [strsOf]
theorem boolsOf_map (ys : List Bool) : boolsOf (ys.map .bool) = some ys := by induction ys <;> simp_all [boolsOf]
theorem c_join {x : Str} (ys : List Str) (h : (ys.map (·.length)).sum + ys.length * x.length ≤ 16777216) : mJoin (.str x) [.list (ys.map .str)] = some (.str (Txt.join x ys)) := by simp [mJoin, strsOf_map, h]
theorem c_all (ys : List Bool) : cAll [.list (ys.map .bool)] = some (.bool (ys.all id)) := by simp [cAll, boolsOf_map]
/-! a def -/
def runR (ss : List Sl) : Option (Fl × En) → Option (Ret × List (Option Mu))
  | some (.rt r, e) => (outsE ss e).map fun o => (r, o)
  | some (.nx, e) => (outsE ss e).map fun o => (.val .none, o)
  | _ => none
theorem q_run {n : Nat} {bb : EvS} : runB n bb ss = runR ss (bb (env0 n ss)) := by
  unfold runB; cases h : bb (env0 n ss) with
  | none => rfl
  | some p => obtain ⟨fl, e⟩ := p; cases fl <;> rfl
theorem q_run1 {q : Ret} : runR ss (some (.rt q, e)) = (outsE ss e).map fun o => (q, o) := rfl
theorem q_run2 : runR ss (some (.nx, e)) = (outsE ss e).map fun o => (.val .none, o) := rfl
theorem q_ouE0 : outsE [] env = some [] := by cases env <;> rfl
theorem q_ouE1 {o : Option Sl} : outsE (.shr d :: ss) (o :: env) = (outsE ss env).map fun l => none :: l := rfl
theorem q_ouE2 {p : Bool} {m' : Mu} : outsE (.own p m :: ss) (some (.own true m') :: env) = (outsE ss env).map fun l => some m' :: l := rfl
end
end GD

/-! a, *b = a tuple; min, max of two; a word in a tuple of words -/
namespace GD
open PySem PySem.Spec PyProof.Rows L2
section
variable {X : Cx}
def gStar (K : PySem.W.Frag) (t : TGs) : TG := fun v σ H Q => ∃ a x xs, v = .ref a ∧ SqT K H a (x :: xs) ∧ xs.length ≤ 16000 ∧ ∀ p, H p = none → t [x, .ref p] σ (upd H p (.lst xs)) Q
theorem pg_star {e0 e1 : Expr} {p pos : Pos} {k : Nat} {t : TGs} (hc : X.calm = true) (h : PGs X [e0, e1] t) (hl : (assignEach [e0, .Starred e1 p] X.env).length = 2 := by rfl)
    (hst : (assignEach [e0, .Starred e1 p] X.env).findIdx? (·.1) = some 1 := by rfl) (hm : (assignEach [e0, .Starred e1 p] X.env).map (·.2) = (assignEach [e0, e1] X.env).map (·.2) := by rfl) :
    PG X (.Tuple [e0, .Starred e1 p] k pos) (gStar X.K t) := by
  refine ⟨fun pins s σ H v u Q I r hw => ?_⟩
  obtain ⟨a, x, xs, rfl, hq, hz, hw⟩ := hw
  cases r
  obtain ⟨its, rv, ht, _⟩ := I.tuple hq
  cases rv with
  | cons r0 rr =>
    rename_i u0 us
    have hh := I.ok.hd hc
    have hlen := rr.length
    have hlt : a ≠ s.heap.objs.size := by obtain ⟨o, ho, _⟩ := ht; exact Nat.ne_of_lt (Heap.lt_size ho)
    rw [assign_Tuple]
    refine wpAny_bind (wpAny_standAt ?_)
    unfold unpack
    rw [hl, hst, hm]
    refine wpAny_bind (wpAny_holding ?_)
    unfold unpackItems
    refine wpAny_bind ?_
    unfold notIterableAtAll
    refine wpAny_bind (wpAny_specialOf ht.typeIs slot_tuple_iter.lookup ?_)
    refine wpAny_pure ?_
    simp only [Bool.false_eq_true, if_false]
    refine wpAny_bind (wpAny_holding (iter_tuple ht ?_))
    refine wpAny_bind (wpAny_holding (draw_tuple hlt 1 0 _ _ ⟨_, Heap.get?_push_size _ rfl, rfl, rfl⟩ (ht.push _) (by simp) fun h₁ hit₁ hs₁ => ?_))
    have ht₁ : IsTup h₁ a (u0 :: us).toArray := (ht.push _).extBut hs₁.extBut hlt
    have hit₁' := hit₁
    obtain ⟨oi, hoi, _⟩ := hit₁'
    have ht₁' := ht₁
    obtain ⟨ol, hol, _⟩ := ht₁'
    have e1 : ((u0 :: us).toArray.toList.drop 0).take 1 = [u0] := rfl
    rw [e1]
    rw [if_neg (show ¬ ([u0].length < 1) by simp)]
    refine wpAny_bind (wpAny_holding (PySem.W.kun_collect (s := { s with heap := h₁ }) (T := "tuple_iterator") (.inr (.inr (.inr rfl))) (Walks.tuple (A := X.A.in1) hh s.heap.objs.size a hlt (u0 :: us).toArray) (fun j u st => st.1.typeIs) (k := 1) (by simp) ⟨hit₁, ht₁⟩ (Heap.lt_size hoi) (Heap.lt_size hol) (fun h₂ tk hk => ?_) (by rw [sizeLine_eq]; simp; omega)))
    have e2 : (u0 :: us).toArray.toList.drop 1 = us := rfl
    rw [e2]
    have e3 : us.take (us.length - 0) = us := by simp
    have e4 : us.drop (us.length - 0) = [] := by simp
    show wpAny _ _ (if us.length < 0 then _ else _) _ _ _
    rw [if_neg (by omega)]
    show wpAny _ _ (newList (us.take (us.length - 0)) >>= fun d => pure ([u0] ++ [d] ++ us.drop (us.length - 0))) _ _ _
    rw [e3, e4]
    have he : ∀ b o, s.heap.get? b = some o → h₂.get? b = some o := fun b o e => hk b o (Nat.ne_of_lt (Heap.lt_size e)) (hs₁.extBut b o (Nat.ne_of_lt (Heap.lt_size e)) (Heap.get?_push_of_some _ e))
    have I2 : Inv X pins σ H { s with heap := h₂, toks := tk } := I.kept he
    refine wpAny_bind (wpAny_newList ?_ (by rw [sizeLine_eq]; omega))
    refine wpAny_pure ?_
    have np : H h₂.objs.size = none := I2.fresh
    have I3 : Inv X pins σ (upd H h₂.objs.size (.lst xs)) { s with heap := h₂.push { cls := .type "list", data := .seq us.toArray }, toks := tk } :=
      I2.laid (fun b u q => Heap.get?_push_of_some _ q) (Nat.le_refl _) ⟨by rw [sizeLine_eq]; omega, us, _, rr, Heap.get?_push_size _ rfl⟩
    exact h.run pins _ σ _ [x, .ref h₂.objs.size] _ Q I3 (.cons r0 (.cons rfl .nil)) (hw _ np)
end
section
variable {K : PySem.W.Frag} {te : TE} {fe : EvE}
def sStar2 (i j : Nat) (e : En) : D → Option (Fl × En)
  | .tuple (d :: ds) => if ds.length ≤ 16000 then some (.nx, (e.set i (some (.shr d))).set j (some (.own false (.l ds)))) else none
  | _ => none
def sStarR (i j : Nat) : Option (R × En) → Option (Fl × En)
  | some (r, e) => (rk e r).bind (sStar2 i j e)
  | none => none
def sStar (i j : Nat) (fe : EvE) : EvS := fun env => sStarR i j (fe env)
theorem is_star {i j : Nat} (h : IE K te fe) : IS K (tAsg te (gStar K (gCons (gName i) (gCons (gName j) gNil)))) (sStar i j fe) := by
  intro F env σ H fl env' S e Dn k
  simp only [sStar] at e
  cases a1 : fe env with
  | none => rw [a1] at e; cases e
  | some p =>
    obtain ⟨r, e1⟩ := p
    rw [a1] at e
    simp only [sStarR, Option.bind_eq_some_iff] at e
    obtain ⟨d, a2, a3⟩ := e
    match d, a2, a3 with
    | .tuple (d :: ds), a2, a3 =>
      simp only [sStar2] at a3
      split at a3
      · rename_i hz
        cases a3
        refine h F T0 env σ H r e1 S a1 _ fun v H' S' st rv => ?_
        obtain ⟨a, vs, rfl, hq, ra, hx⟩ := Rp.tupI (rk_ok S' rv a2)
        cases ra with
        | @cons x xs _ _ r0 rr =>
          clear hx
          refine ⟨a, x, xs, rfl, hq, by rw [rr.length]; exact hz, fun p np => ⟨_, _, rfl, ⟨_, _, rfl, rfl, ?_⟩⟩⟩
          have S1 := S'.setS r0 (i := i)
          have rr1 := rr.stq (S'.setS_q (i := i) (v := x) (d := d))
          have xx : Ext (fun _ => False) H' (upd H' p (.lst xs)) := Ext.new np
          have S2 := S1.lay1 np xx (by rw [upd_same]; simp)
          refine k _ _ (StOk.setM (m := .l ds) id S2 (S1.fresh0 np) (show MuAt K _ _ p (.l ds) from ⟨xs, upd_same, owp np xx rr1⟩)) ?_
          have q := st.q.trans (S'.setS_q (i := i) (v := x) (d := d))
          refine ⟨q.ext.trans xx (fun _ h => h.elim), fun b hb => ?_⟩
          rcases wr_set hb with hb | ⟨_, _, e, e2⟩
          · exact q.wr b hb
          · cases e2
            refine .inr ?_
            cases e3 : H p with
            | none => rfl
            | some o => exact absurd np (st.ext.live p (by rw [e3]; simp))
      · cases a3
def cMin2 : List D → Option D
  | [.int i, .int j] => some (.int (if j < i then j else i))
  | _ => none
theorem cd_min2 : CaD K (fun xs H Q => ∃ i j, xs = [.int i, .int j] ∧ Q (.int (if j < i then j else i)) H) cMin2 := by
  intro O H xs ds z hO l hz Q q
  match ds, hz, l with
  | [.int i, .int j], hz, l =>
    cases hz
    obtain ⟨v, w, rfl, h, h2⟩ := LvAll.two l
    cases Rp.sc h
    cases Rp.sc h2
    exact ⟨i, j, rfl, q _ H Ext.refl (.int _)⟩
def cMax2 : List D → Option D
  | [.int i, .int j] => some (.int (if j > i then j else i))
  | _ => none
theorem cd_max2 : CaD K (fun xs H Q => ∃ i j, xs = [.int i, .int j] ∧ Q (.int (if j > i then j else i)) H) cMax2 := by
  intro O H xs ds z hO l hz Q q
  match ds, hz, l with
  | [.int i, .int j], hz, l =>
    cases hz
    obtain ⟨v, w, rfl, h, h2⟩ := LvAll.two l
    cases Rp.sc h
    cases Rp.sc h2
    exact ⟨i, j, rfl, q _ H Ext.refl (.int _)⟩
/-- a text in a tuple of texts -/
def dInT : D → D → Option D
  | .str i, .tuple ds => (strsOf ds).map fun bs => .bool (inV (.str i) (bs.map V.str))
  | _, _ => none
theorem od_inT : OpD K (rIn K false) dInT := by
  intro O H x y d e z hO l1 l2 hz Q q
  match d, e, hz, l1, l2 with
  | .str i, .tuple ds, hz, l1, l2 =>
    simp only [dInT, Option.map_eq_some_iff] at hz
    obtain ⟨bs, hb, rfl⟩ := hz
    cases Rp.scS l1
    obtain ⟨a, xs, rfl, h, r, _⟩ := Rp.tupI l2
    cases strsOf_ok r hb
    exact ⟨a, _, rfl, .inr h, rfl, by induction bs <;> simp_all [flatV], q _ H Ext.refl (.bl _)⟩
theorem q_star {env : En} {i j : Nat} : sStar i j fe env = sStarR i j (fe env) := rfl
theorem q_star1 {e : En} {i j : Nat} {d : D} {ds : List D} (h : ds.length ≤ 16000) : sStarR i j (some (.val (.tuple (d :: ds)), e)) = some (.nx, (e.set i (some (.shr d))).set j (some (.own false (.l ds)))) := by
  show (if ds.length ≤ 16000 then _ else none) = _
  rw [if_pos h]
theorem c_min2 {i j : Int} : cMin2 [.int i, .int j] = some (.int (if j < i then j else i)) := rfl
theorem c_max2 {i j : Int} : cMax2 [.int i, .int j] = some (.int (if j > i then j else i)) := rfl
end
end GD

/-! a text times a number; a or b as a value; two keywords in the other order -/
namespace GD
open PySem PySem.Spec PyProof.Rows L2
def strRep (a : Str) (k : Int) : Str := if (k == 1 || a.length == 0) = true then a else ⟨(List.replicate k.toNat a.cps).foldl (· ++ ·) #[]⟩
def rRepS : R2 := fun x y H Q => ∃ a k, x = .str a ∧ y = .int k ∧ 1 ≤ k ∧ k ≤ 1000 ∧ a.length ≤ 1000 ∧ Q (.str (strRep a k)) H
theorem op_repS {X : Cx} : OpR X (binaryOp .Mult) rRepS := by
  intro pins s σ H x y v u Q I rx ry h
  obtain ⟨a, k, rfl, rfl, h1, h2, h3, q⟩ := h
  obtain ⟨t, rfl⟩ := rx
  obtain ⟨t', rfl⟩ := ry
  have hk : ¬ k < 1 := by omega
  have hdiv : (9223372036854775 : Int) ≤ (2 ^ 63 - 1) / k := by
    rw [Int.le_ediv_iff_mul_le (by omega)]
    have : 9223372036854775 * k ≤ 9223372036854775 * 1000 := Int.mul_le_mul_of_nonneg_left h2 (by omega)
    omega
  have hmul : a.length * k.toNat ≤ 1000 * 1000 := Nat.mul_le_mul h3 (by omega)
  refine PySem.P.mul_str (by
    rw [decide_eq_false (show ¬ k < -(2 ^ 63 : Int) by omega), decide_eq_false (show ¬ k ≥ (2 ^ 63 : Int) by omega)]; rfl) (fun _ _ => by omega) (fun _ _ => ?_) ?_
  · unfold Builtin.Str.tooLong; rw [sizeLine_eq]; exact decide_eq_false (by omega)
  · rw [if_neg hk]
    unfold strRep at q
    by_cases hc : (k == 1 || a.length == 0) = true
    · rw [if_pos hc] at q ⊢
      exact ⟨.str a, H, I, ⟨_, rfl⟩, q⟩
    · rw [if_neg hc] at q ⊢
      refine ⟨?_, .str _, H, I.tok _, ⟨_, rfl⟩, q⟩
      have hlen : ∀ (n : Nat) (b : Array Nat), ((List.replicate n a.cps).foldl (· ++ ·) b).size = b.size + n * a.cps.size := by
        intro n
        induction n with
        | zero => intro b; simp
        | succ n ih => intro b; rw [List.replicate_succ, List.foldl_cons, ih, Array.size_append, Nat.succ_mul]; omega
      have e := hlen k.toNat #[]
      have h4 : k.toNat * a.cps.size ≤ 1000 * 1000 := Nat.mul_le_mul (by omega) h3
      show ((List.replicate k.toNat a.cps).foldl (· ++ ·) #[]).size ≤ sizeLine
      rw [e, sizeLine_eq]
      simp only [List.size_toArray, List.length_nil]
      omega
section
variable {K : PySem.W.Frag} {ta tb : TE} {fa fb : EvE}
def dMulS : D → D → Option D
  | .str a, .int k => if decide (1 ≤ k ∧ k ≤ 1000 ∧ a.length ≤ 1000) = true then some (.str (strRep a k)) else none
  | _, _ => none
theorem od_mulS : OpD K rRepS dMulS := by
  intro O H x y d e z hO l1 l2 hz Q q
  match d, e, hz, l1, l2 with
  | .str a, .int k, hz, l1, l2 =>
    simp only [dMulS] at hz
    split at hz
    · rename_i h
      cases hz
      have h := of_decide_eq_true h
      cases Rp.scS l1
      cases Rp.sc l2
      exact ⟨a, k, rfl, rfl, h.1, h.2.1, h.2.2, q _ H Ext.refl (.str _)⟩
    · cases hz
def truD : D → Option Bool
  | .none => some false
  | .bool b => some b
  | .int i => some (i != 0)
  | .str y => if small y.length = true then some ((y.length : Int) != 0) else none
  | _ => none
def orTR2 (fb : EvE) (d : D) (e : En) : Option Bool → Option (R × En)
  | some true => some (.val d, e)
  | some false => fb e
  | none => none
def orTR (fb : EvE) : Option (R × En) → Option (R × En)
  | some (.val d, e) => orTR2 fb d e (truD d)
  | _ => none
def eOrT (fa fb : EvE) : EvE := fun env => orTR fb (fa env)
theorem truD_ok {O : Addr → Prop} {H : Hp} {v : V} {d : D} {k : Bool} (r : Rp K O H v d) (h : truD d = some k) : TruV K v H k := by
  match d, h with
  | .none, h => cases Rp.scN r; cases h; rfl
  | .bool b, h => cases Rp.scB r; cases h; rfl
  | .int i, h => cases Rp.sc r; cases h; rfl
  | .str y, h =>
    cases Rp.scS r
    simp only [truD] at h
    split at h
    · rename_i hs; cases h; exact ⟨small_le hs, rfl⟩
    · cases h
theorem ie_orT (ha : IE K ta fa) (hb : IE K tb fb) : IE K (tOrT K ta tb) (eOrT fa fb) := by
  intro F T env σ H r env' S e Q q
  simp only [eOrT] at e
  cases a1 : fa env with
  | none => rw [a1] at e; cases e
  | some p =>
    obtain ⟨r1, e1⟩ := p
    rw [a1] at e
    cases r1 with
    | slot i => cases e
    | val d =>
      simp only [orTR] at e
      cases ht : truD d with
      | none => rw [ht] at e; cases e
      | some k =>
        rw [ht] at e
        refine ha F T env σ H (.val d) e1 S a1 _ fun v H1 S1 st rv => ⟨k, truD_ok rv ht, ?_⟩
        cases k with
        | true => cases e; exact q v H1 S1 st rv
        | false => exact hb F T e1 σ H1 r env' S1 e Q fun w H2 S2 st2 rw2 => q w H2 S2 (st.trans st2) rw2
theorem q_orT {env : En} : eOrT fa fb env = orTR fb (fa env) := rfl
theorem q_orT1 {d : D} {e : En} : orTR fb (some (.val d, e)) = orTR2 fb d e (truD d) := rfl
theorem q_orT2 {d : D} {e : En} : orTR2 fb d e (some true) = some (.val d, e) := rfl
theorem q_orT3 {d : D} {e : En} : orTR2 fb d e (some false) = fb e := rfl
theorem c_truN : truD .none = some false := rfl
theorem c_truS {y : Str} (h : y.length ≤ 1000000) : truD (.str y) = some ((y.length : Int) != 0) := if_pos (decide_eq_true h)
theorem c_mulS {a : Str} {k : Int} (h : 1 ≤ k) (h2 : k ≤ 1000) (h3 : a.length ≤ 1000) : dMulS (.str a) (.int k) = some (.str (strRep a k)) := if_pos (decide_eq_true ⟨h, h2, h3⟩)
end
section
variable {K : PySem.W.Frag}
def dAddI : D → D → Option D := dI (fun _ _ => true) fun i j => .int (i + j)
theorem od_addI : OpD K (rI0 fun i j => .int (i + j)) dAddI := od_I0 fun _ _ _ _ => .int _
theorem c_addII {i j : Int} : dAddI (.int i) (.int j) = some (.int (i + j)) := rfl
end
/-! keywords behind so many positional arguments, in the parameters' order or the other way round -/
def ordA {α : Type} (rev : Bool) (ws : List α) : List α := if rev = true then ws.reverse else ws
def selA {α : Type} (a b : Nat) (rev : Bool) (us ws : List α) : List α := if (decide (us.length = a) && decide (ws.length = b)) = true then us ++ ordA rev ws else []
theorem RvAll.len {K : PySem.W.Frag} {F : Frm} {T : Addr → Prop} {H : Hp} {env : En} {σ : L2.St} : ∀ {us : List V} {w : List R}, RvAll K F T H env σ us w → us.length = w.length
  | [], [], _ => rfl
  | u :: us, r :: w, h => by rw [List.length_cons, List.length_cons, RvAll.len h.2]
  | [], _ :: _, h => h.elim
  | _ :: _, [], h => h.elim
theorem RvAll.rev {K : PySem.W.Frag} {F : Frm} {T : Addr → Prop} {H : Hp} {env : En} {σ : L2.St} : ∀ {us : List V} {w : List R}, RvAll K F T H env σ us w → RvAll K F T H env σ us.reverse w.reverse
  | [], [], _ => trivial
  | u :: us, r :: w, h => by
    rw [List.reverse_cons, List.reverse_cons]
    exact appR_ok (vs := us.reverse) (us := [u]) (l := w.reverse) (w := [r]) (RvAll.rev h.2) ⟨h.1, trivial⟩
  | [], _ :: _, h => h.elim
  | _ :: _, [], h => h.elim
theorem selR_ok {a b : Nat} {rev : Bool} {K : PySem.W.Frag} {F : Frm} {T : Addr → Prop} {H : Hp} {env : En} {σ : L2.St} {vs us : List V} {l w : List R} (h : RvAll K F T H env σ vs l) (q : RvAll K F T H env σ us w) : RvAll K F T H env σ (selA a b rev vs us) (selA a b rev l w) := by
  unfold selA
  rw [h.len, q.len]
  split
  · refine appR_ok h ?_
    unfold ordA
    cases rev with
    | true => exact q.rev
    | false => exact q
  · trivial
theorem vals_rev : ∀ {us : List V} {ws : List Value}, Vals us ws → Vals us.reverse ws.reverse
  | _, _, .nil => .nil
  | _, _, .cons r t => by
    rw [List.reverse_cons, List.reverse_cons]
    exact (vals_rev t).append (.cons r .nil)
theorem kb_sel {a b : Nat} {rev : Bool} {K : PySem.W.Frag} {x qual : Str} {st : Stmt} {f : Addr} {fd : FuncData} {ps ks : List Str} (F : Fun K x qual st f fd) (hp : ps.length = a + b) (hp0 : 0 < a + b)
    (h : ∀ (kV doc pm : Value) (an : Option Addr) (cdv ct : Value) (us ws : List Value), us.length = a → ws.length = b → bindArgs (PySem.W.fnOf x qual (defArgs st) (defBody st) (defScope st) .none kV doc pm an cdv ct) ⟨us, ks.zip ws⟩ = pure (ps.zip (us ++ ordA rev ws))) :
    KBinds K fd ps ks (selA a b rev) (selA a b rev) := by
  obtain ⟨oc, od, kV, doc, pm, an, cdv, ct, osl, rfl, lk, hcd⟩ := F.ex
  refine ⟨fun s us ws _ hl => ?_, fun r q => ?_⟩
  · unfold selA at hl ⊢
    by_cases hc : (decide (us.length = a) && decide (ws.length = b)) = true
    · rw [if_pos hc]
      rw [Bool.and_eq_true] at hc
      exact .of_eq (h kV doc pm an cdv ct us ws (of_decide_eq_true hc.1) (of_decide_eq_true hc.2))
    · rw [if_neg hc] at hl
      simp only [List.length_nil] at hl
      omega
  · unfold selA
    rw [r.length, q.length]
    split
    · refine Vals.append r ?_
      unfold ordA
      cases rev with
      | true => exact vals_rev q
      | false => exact q
    · exact .nil
theorem lenS {a b c : Nat} {rev : Bool} {fl fk : EvA} (h : lenOk a fl) (h' : lenOk b fk) (e : a + b = c) : ∀ env l e1 w e2, fl env = some (l, e1) → fk e1 = some (w, e2) → (selA a b rev l w).length = c := fun env l e1 w e2 p q => by
  have h1 := h _ _ _ p
  have h2 := h' _ _ _ q
  unfold selA
  rw [if_pos (by rw [decide_eq_true h1, decide_eq_true h2]; rfl), List.length_append]
  unfold ordA
  cases rev
  · rw [if_neg (by simp), h1, h2, e]
  · rw [if_pos rfl, List.length_reverse, h1, h2, e]
section
variable {α : Type} {x y z : α}
theorem q_s01 : selA 0 1 false [] [x] = [x] := by
  unfold selA ordA; simp
theorem q_s11 : selA 1 1 false [x] [y] = [x, y] := by
  unfold selA ordA; simp
theorem q_s02 : selA 0 2 false [] [x, y] = [x, y] := by
  unfold selA ordA; simp
theorem q_s02r : selA 0 2 true [] [x, y] = [y, x] := by
  unfold selA ordA; simp
theorem q_s12 : selA 1 2 false [x] [y, z] = [x, y, z] := by
  unfold selA ordA; simp
theorem q_s12r : selA 1 2 true [x] [y, z] = [x, z, y] := by
  unfold selA ordA; simp
theorem q_s21 : selA 2 1 false [x, y] [z] = [x, y, z] := by
  unfold selA ordA; simp
theorem q_s03 : selA 0 3 false [] [x, y, z] = [x, y, z] := by
  unfold selA ordA; simp
theorem q_s03r : selA 0 3 true [] [x, y, z] = [z, y, x] := by
  unfold selA ordA; simp
end
end GD

/-! enumerate(t), t a tuple -/
namespace GD
open PySem PySem.Spec PyProof.Rows L2
theorem enum_new1 {v : Value} {o : Obj} {S : Heap → Prop} (B : Begins v o S) :
    Meets (Builtin.«enumerate.__new__» ⟨[.type "enumerate", v], []⟩) (fun _ R s => S s.heap ∧
      R (.ok (.ret (.ref (s.heap.push o).objs.size))) { s with heap := (s.heap.push o).push { cls := .type "enumerate", data := .fields #[.none, .bool false, .ref s.heap.objs.size, rawInt 0, .none, .none] } }) :=
  .of_wp fun prog w A R s h => by
    obtain ⟨hp, g, d, tk, os⟩ := s
    obtain ⟨h1, h⟩ := h
    have sb := sub_enumerate
    have q1 : ∀ {A' : Around} {E : Value → Shared → Prop} {Q : Value → Shared → Prop}, Q (.ref hp.objs.size) ⟨hp.push o, g, d, tk, os⟩ → wpAny (model prog w) A' (pyIter v) Q E ⟨hp, g, d, tk, os⟩ := fun q => B.iter prog w _ _ ⟨hp, g, d, tk, os⟩ _ h1 q
    wp_walk using q1
    refine wpAny_stack_any fun st => wpAny_pure ?_
    split
    · rename_i c _ _ _ _ _
      cases (c == Value.type "enumerate") <;> (wp_walk using q1; exact ⟨_, rfl, h⟩)
    · wp_walk using q1
      exact ⟨_, rfl, h⟩
section
variable {prog : Program} {w : World} {A : Around} {E : Value → Shared → Prop} {s : Shared}
theorem enum_call1 {v : Value} {o : Obj} {S : Heap → Prop} {Q : Value → Shared → Prop} (B : Begins v o S) (h1 : S s.heap)
    (h : ∀ h', IsEnum h' (s.heap.objs.size + 1) s.heap.objs.size 0 .none → h'.get? s.heap.objs.size = some o → (∀ b u, s.heap.get? b = some u → h'.get? b = some u) → Q (.ref (s.heap.objs.size + 1)) { s with heap := h' }) :
    wpAny (model prog w) A (call (.type "enumerate") [v]) Q E s := by
  refine callType_new F.called_enumerate (by decide) (F.typeCall_enumerate_1 _) (F.newCall_enumerate_1 _) (fun obj => F.args_object_init_2 obj _) F.entry_enumerate_new (enum_new1 B) ⟨h1, ?_⟩
  have hz : (s.heap.push o).objs.size = s.heap.objs.size + 1 := Heap.size_push ..
  show _ ∧ _
  rw [hz]
  have hee := Heap.get?_push_size (s.heap.push o) (o := { cls := .type "enumerate", data := .fields #[.none, .bool false, .ref s.heap.objs.size, rawInt 0, .none, .none] }) rfl
  rw [hz] at hee
  exact ⟨⟨_, hee, rfl⟩, h _ hee (Heap.get?_push_of_some _ (Heap.get?_push_size _ B.free)) fun b u x => Heap.get?_push_of_some _ (Heap.get?_push_of_some _ x)⟩
end
/-- the tuple at a as it stands at each turn, each item in a new pair -/
def Jte (K : PySem.W.Frag) (a : Addr) : It :=
  ⟨fun i H => ∃ (xs : List V) (x : V), SqT K H a xs ∧ xs[i]? = some x, fun i H v H' => ∃ T x, v = .ref T ∧ H T = none ∧ H' = upd H T (.tup [.int (i : Nat), x]) ∧ ∀ xs, SqT K H a xs → xs[i]? = some x, fun i H => ∃ xs : List V, SqT K H a xs ∧ xs.length ≤ i⟩
theorem turn_enumT {P : Program} {w : World} {K : PySem.W.Frag} {elts : List Expr} {kk : Nat} {tpos : Pos} (a e it : Addr) :
    Turn P w K (.Tuple elts kk tpos) (Jte K a) [e, it] e (fun i h => (∃ old, IsEnum h e it ((i : Nat) : Int) old) ∧ h.IsTupleIter it a i ∧ e ≠ it ∧ a ≠ it ∧ a ≠ e) where
  mem := by simp
  obj := fun i h st b hb => by
    obtain ⟨⟨old, he⟩, ⟨o, ho, hc, hd⟩, _⟩ := st
    have hbb : b = e ∨ b = it := by simpa using hb
    rcases hbb with rfl | rfl
    · exact ⟨_, he, fun v q => nomatch q⟩
    · exact ⟨o, ho, fun v q => by rw [hd] at q; cases q⟩
  keep := fun i h h' st k => by
    obtain ⟨⟨old, he⟩, ⟨o, ho, hc⟩, hne, n1, n2⟩ := st
    exact ⟨⟨old, k e (by simp) _ he⟩, ⟨o, k it (by simp) _ ho, hc⟩, hne, n1, n2⟩
  item := by
    intro X hP hw hK hc i pins s σ H E I hf st hg
    subst hP hw hK
    obtain ⟨⟨old, he⟩, hit, hne, na, nb⟩ := st
    obtain ⟨xs, x, hq, hx⟩ := hg
    obtain ⟨its, rv, p, hz⟩ := I.tuple hq
    obtain ⟨u, hu, ru⟩ := rv.get hx
    have hel : e < s.heap.objs.size := Heap.lt_size he
    have hil : it < s.heap.objs.size := by obtain ⟨_, q, _⟩ := hit; exact Heap.lt_size q
    have hlt : i < its.toArray.size := by
      have := List.getElem?_eq_some_iff.mp hu
      obtain ⟨q, _⟩ := this
      simpa using q
    refine wpAny_pyNext_enum_itemD (Draws.tuple (A := X.A.in1) (I.ok.hd hc) it a na its.toArray) he ⟨hit, p⟩ hlt hne (by simp [hne, Ne.symm nb]) fun y h' tk hy ho hst hT hsz hk => ?_
    have hyu : y = u := by
      have e1 : its.toArray[i]? = some u := by simpa using hu
      rw [e1] at hy; cases hy; rfl
    subst hyu
    refine ⟨_, rfl, wpAny_letOwnedTupleGo_enum (s := { s with heap := h', toks := tk + 1 }) ho fun h'' he' sb => ?_⟩
    have hT2 : h''.get? s.heap.objs.size = some { cls := .type "tuple", data := .seq #[.int i tk, y] } := (sb.2 _ (Nat.ne_of_gt hel)).trans hT
    have new : ObjOk X.prog X.w (upd H s.heap.objs.size (.tup [.int (i : Nat), x])) h'' s.heap.objs.size (.tup [.int (i : Nat), x]) :=
      ⟨by show 2 ≤ sizeLine; decide, [.int i tk, y], .cons ⟨_, rfl⟩ (.cons ru .nil), ⟨_, hT2, rfl, _, rfl⟩⟩
    have I1 : Inv X pins σ (upd H s.heap.objs.size (.tup [.int (i : Nat), x])) { s with heap := h'', toks := tk + 1 } :=
      I.turnedNew (ch := [e, it]) (fun b ob hb q => (sb.2 b (fun z => hb (by simp [z]))).trans (hk b ob (fun z => hb (by simp [z])) (fun z => hb (by simp [z])) q)) hf (Nat.le_refl _) new
    obtain ⟨⟨oi, hoi, hci⟩, _⟩ := hst
    refine ⟨.ref s.heap.objs.size, _, I1, rfl, ⟨_, x, rfl, I.hok.fresh (Nat.le_refl _), rfl, fun ys hy => by rw [I.tuple_inj hy hq]; exact hx⟩, ⟨⟨y, ?_⟩, ⟨oi, (sb.2 it (Ne.symm hne)).trans hoi, hci⟩, hne, na, nb⟩, fun b hb => ?_⟩
    · rw [show ((i + 1 : Nat) : Int) = (i : Int) + 1 by omega]; exact he'
    · have hbs : b < s.heap.objs.size := by
        have hbb : b = e ∨ b = it := by simpa using hb
        rcases hbb with rfl | rfl
        · exact hel
        · exact hil
      rw [upd_ne (Nat.ne_of_lt hbs)]
      exact (hf b hb).1
  done := by
    intro X hP hw hK hc i pins s σ H E I hf st hg
    subst hP hw hK
    obtain ⟨⟨old, he⟩, hit, hne, na, nb⟩ := st
    obtain ⟨xs, hq, hx⟩ := hg
    obtain ⟨its, rv, p, hz⟩ := I.tuple hq
    obtain ⟨f0, f1, f2, f3, f4, f5⟩ := hf it (by simp)
    have hl := rv.length
    have D0 : Draws X.prog X.w X.A.in1 it [it, a] 0 (fun _ _ => False) (fun j h => h.IsTupleIter it a (i + j) ∧ h.IsTuple a its.toArray) :=
      { live := fun _ _ st => let ⟨o, ho, _⟩ := st.1; ⟨o, ho⟩
        frame := fun j h h' st hk => by
          obtain ⟨⟨o, ho, h1⟩, ⟨o2, ho2, h2⟩⟩ := st
          exact ⟨⟨o, hk it (by simp) _ ho, h1⟩, ⟨o2, hk a (by simp) _ ho2, h2⟩⟩
        item := fun j s Q E hj => by omega
        done := fun s Q E st hE => wpAny_nextOf_tuple_end (I.ok.hd hc) st.1 st.2 (by simp; omega) hE }
    exact wpAny_pyNext_enum_endD D0 he ⟨hit, p⟩ fun h' eb => ⟨rfl, I.turned (t' := s.toks) (fun b o hb q => eb b o hb q) f0 f1 f3 f4 f5⟩
  self := fun A i s Q E st h => by
    obtain ⟨⟨old, he⟩, _⟩ := st
    exact wpAny_pyIter_enum he h
def jEnum (K : PySem.W.Frag) (ta : TA) : TI := fun σ H R => ta σ H fun vs H1 => ∃ a xs, vs = [.ref a] ∧ ((SqL K H1 a xs ∧ R (Ite K a) H1) ∨ (SqT K H1 a xs ∧ R (Jte K a) H1))
theorem pi_enumA {X : Cx} {e : Expr} {ta : TA} {p pos tpos : Pos} {elts : List Expr} {kk : Nat} (hg : Gl X "enumerate") (hm : X.mg "enumerate" = none) (ha : PA X [e] ta) (hs : starEach [e] X.env = [(false, eval e X.env)] := by rfl) :
    PI X (.Tuple elts kk tpos) (.Call (.Name "enumerate" p) [e] [] pos) (jEnum X.K ta) := by
  refine ⟨fun pins s σ H R I h => ?_⟩
  refine Call_ (ld_blt I hg hm boot_enumerate (PyProof.Rows.callWith_type1 (thn (ha.run pos pins s σ H _ I h) fun us s1 ⟨vs, H1, I1, r1, q1⟩ => ?_) hs rfl))
  obtain ⟨a, xs, rfl, q⟩ := q1
  cases r1 with
  | cons r rr =>
    cases rr
    cases r
    have fps : ∀ b, b ∈ [s1.heap.objs.size + 1, s1.heap.objs.size] → s1.heap.objs.size ≤ b := fun b hb => by
      have hbb : b = s1.heap.objs.size + 1 ∨ b = s1.heap.objs.size := by simpa using hb
      omega
    rcases q with ⟨hq, q⟩ | ⟨hq, q⟩
    · obtain ⟨its, rv, pl, hz⟩ := I1.list hq
      refine call_enumerate_list pl.isList fun h' he hit hsz hk => wpAny_pyIter_enum he ?_
      exact ⟨s1.heap.objs.size + 1, [s1.heap.objs.size + 1, s1.heap.objs.size], _, _, H1, rfl, I1.kept (t' := s1.toks) hk, turn_enum a _ _, ⟨⟨.none, he⟩, hit, Nat.succ_ne_self _⟩, fun b hb => I1.fpOk (fps b hb) (I1.hok.fresh (fps b hb)), q⟩
    · obtain ⟨its, rv, pt, hz⟩ := I1.tuple hq
      have hal : a < s1.heap.objs.size := by obtain ⟨o, ho, _⟩ := pt; exact Heap.lt_size ho
      refine enum_call1 (begins_tuple a its.toArray) pt fun h' he hi hk => wpAny_pyIter_enum he ?_
      exact ⟨s1.heap.objs.size + 1, [s1.heap.objs.size + 1, s1.heap.objs.size], _, _, H1, rfl, I1.kept (t' := s1.toks) hk, turn_enumT a _ _, ⟨⟨.none, he⟩, ⟨_, hi, rfl, rfl⟩, Nat.succ_ne_self _, Nat.ne_of_lt hal, Nat.ne_of_lt (Nat.lt_succ_of_lt hal)⟩, fun b hb => I1.fpOk (fps b hb) (I1.hok.fresh (fps b hb)), q⟩
section
variable {K : PySem.W.Frag}
def wEnumA2 (e : En) : List D → Option (List D × En)
  | [.list ds] => some (enumD ds, e)
  | [.tuple ds] => some (enumD ds, e)
  | _ => none
def wEnumA1 (e : En) : Option (List D) → Option (List D × En)
  | some ds => wEnumA2 e ds
  | none => none
def wEnumA0 : Option (List R × En) → Option (List D × En)
  | some (l, e) => wEnumA1 e (rkA e l)
  | none => none
def wEnumA (fl : EvA) : EvW := fun env => wEnumA0 (fl env)
theorem q_wea {fl : EvA} {env : En} : wEnumA fl env = wEnumA0 (fl env) := rfl
theorem q_wea0 {l : List R} {e : En} : wEnumA0 (some (l, e)) = wEnumA1 e (rkA e l) := rfl
theorem q_wea1 {ds : List D} {e : En} : wEnumA1 e (some ds) = wEnumA2 e ds := rfl
theorem q_wea2 {ds : List D} {e : En} : wEnumA2 e [.list ds] = some (enumD ds, e) := rfl
theorem q_wea3 {ds : List D} {e : En} : wEnumA2 e [.tuple ds] = some (enumD ds, e) := rfl
theorem enum_at {ds : List D} {i : Nat} {d : D} (h : (enumD ds)[i]? = some d) : ∃ d0, ds[i]? = some d0 ∧ d = .tuple [.int (i : Int), d0] := by
  unfold enumD at h
  rw [List.getElem?_map, List.getElem?_zipIdx] at h
  cases e : ds[i]? with
  | none => rw [e] at h; cases h
  | some d0 =>
    rw [e] at h
    refine ⟨d0, rfl, ?_⟩
    simp at h
    exact h.symm
theorem iw_enumA {tl : TA} {fl : EvA} (hl : IA K tl fl) : IW K (jEnum K tl) (wEnumA fl) := by
  intro F T env σ H items env' S e R k
  simp only [wEnumA] at e
  cases h1 : fl env with
  | none => rw [h1] at e; cases e
  | some p =>
    obtain ⟨l, e1⟩ := p
    rw [h1] at e
    simp only [wEnumA0] at e
    cases h2 : rkA e1 l with
    | none => rw [h2] at e; cases e
    | some ds =>
      rw [h2] at e
      refine hl F T env σ H l _ S h1 _ fun vs H1 S1 s1 v1 => ?_
      have la := rkA_ok S1 v1 h2
      match ds, e, la with
      | [.list ds], e, .cons rd rt =>
        cases e
        cases rt
        cases rd with
        | lst he hn hr =>
          refine ⟨_, _, rfl, .inl ⟨.inl (.inl he), k _ H1 S1 s1 fun O' H2 f kk hO => ?_⟩⟩
          have e2 := kk _ _ hn he
          have r2 := RpAll.tr f kk hr
          refine ⟨fun i d hi => ?_, fun i hi => ⟨_, .inl (.inl e2), by simpa [enumD, r2.length] using hi⟩⟩
          obtain ⟨d0, hd, rfl⟩ := enum_at hi
          obtain ⟨v, hv, rv⟩ := r2.get hd
          refine ⟨⟨_, v, .inl (.inl e2), hv⟩, fun x H' y => ?_⟩
          obtain ⟨T1, x1, rfl, nT, rfl, hx⟩ := y
          have hz := hx _ (.inl (.inl e2))
          rw [hv] at hz; cases hz
          exact ⟨ext_new nT, .tup (.inl ⟨.inl upd_same, fun h => hO _ h nT⟩) (.cons (.int _) (.cons (rv.upd nT) .nil))⟩
      | [.tuple ds], e, .cons rd rt =>
        cases e
        cases rt
        cases rd with
        | @tup a xs _ he hr =>
          refine ⟨_, _, rfl, .inr ⟨he.imp (·.1) id, k _ H1 S1 s1 fun O' H2 f kk hO => ?_⟩⟩
          have e2 : SqT K H2 a xs := tup_tr f kk he
          have r2 := RpAll.tr f kk hr
          refine ⟨fun i d hi => ?_, fun i hi => ⟨_, e2, by simpa [enumD, r2.length] using hi⟩⟩
          obtain ⟨d0, hd, rfl⟩ := enum_at hi
          obtain ⟨v, hv, rv⟩ := r2.get hd
          refine ⟨⟨_, v, e2, hv⟩, fun x H' y => ?_⟩
          obtain ⟨T1, x1, rfl, nT, rfl, hx⟩ := y
          have hz := hx _ e2
          rw [hv] at hz; cases hz
          exact ⟨ext_new nT, .tup (.inl ⟨.inl upd_same, fun h => hO _ h nT⟩) (.cons (.int _) (.cons (rv.upd nT) .nil))⟩
end
end GD

/-! xs.pop(i), xs.reverse(), a list times a number -/
namespace GD
open PySem PySem.Spec PyProof.Rows L2
section
variable {K : PySem.W.Frag}
theorem RpAll.erase {O : Addr → Prop} {H : Hp} {vs : List V} {ds : List D} (r : RpAll K O H vs ds) (k : Nat) : RpAll K O H (vs.eraseIdx k) (ds.eraseIdx k) := by
  rw [List.eraseIdx_eq_take_drop_succ, List.eraseIdx_eq_take_drop_succ]
  exact (r.take _).append (r.drop _)
theorem RpAll.rev {O : Addr → Prop} {H : Hp} : ∀ {vs : List V} {ds : List D}, RpAll K O H vs ds → RpAll K O H vs.reverse ds.reverse
  | _, _, .nil => .nil
  | _, _, .cons r t => by
    rw [List.reverse_cons, List.reverse_cons]
    exact (RpAll.rev t).append (.cons r .nil)
def gPopAt : Mu → List D → Option (Mu × D)
  | .l ds, [.int i] => if small ds.length = true then (ixN ds.length i).bind fun k => (ds[k]?).map fun d => (.l (ds.eraseIdx k), d) else none
  | _, _ => none
theorem md_popAt : MtD K "list" rPopAt gPopAt := by
  intro O H a m vs ds m' z ha mu r hz Q q
  match m, ds, hz, r with
  | .l es, [.int i], hz, .cons r0 .nil =>
    simp only [gPopAt] at hz
    split at hz
    · rename_i hs
      simp only [Option.bind_eq_some_iff, Option.map_eq_some_iff] at hz
      obtain ⟨k, hk, d, hd, h⟩ := hz
      cases h
      cases Rp.sc r0
      obtain ⟨xs, e, rr⟩ := mu
      obtain ⟨v, hv, rv⟩ := rr.get hd
      obtain ⟨s1, s2, s3, s4⟩ := ixN_seq hk
      have hl : es.length ≤ 1000000 := of_decide_eq_true hs
      have kp : ∀ b u, ¬ O b → H b = some u → upd H a (.lst (xs.eraseIdx k)) b = some u := fun b u n q => by rw [upd_ne (fun z => n (by subst z; exact ha))]; exact q
      exact ⟨a, xs, i, k, v, rfl, rfl, e, by omega, by omega, by rw [rr.length]; exact s1, hv, q _ _ ⟨_, upd_same, (rr.erase k).tr (fun _ _ _ n => n) kp⟩ (rv.tr (fun _ _ _ n => n) kp)⟩
    · cases hz
def gRev : Mu → List D → Option (Mu × D)
  | .l ds, [] => some (.l ds.reverse, .none)
  | _, _ => none
theorem md_rev : MtD K "list" rReverse gRev := by
  intro O H a m vs ds m' z ha mu r hz Q q
  match m, ds, hz, r with
  | .l es, [], hz, .nil =>
    cases hz
    obtain ⟨xs, e, rr⟩ := mu
    have kp : ∀ b u, ¬ O b → H b = some u → upd H a (.lst xs.reverse) b = some u := fun b u n q => by rw [upd_ne (fun z => n (by subst z; exact ha))]; exact q
    exact ⟨a, xs, rfl, rfl, e, q _ _ ⟨_, upd_same, (RpAll.rev rr).tr (fun _ _ _ n => n) kp⟩ .non⟩
/-- a list times a number -/
def repD (n : Nat) (ds : List D) : List D := (List.replicate n ds).flatten
theorem RpAll.rep {O : Addr → Prop} {H : Hp} {vs : List V} {ds : List D} (r : RpAll K O H vs ds) : ∀ n : Nat, RpAll K O H (List.replicate n vs).flatten (repD n ds)
  | 0 => .nil
  | n + 1 => by
    unfold repD
    rw [List.replicate_succ, List.replicate_succ, List.flatten_cons, List.flatten_cons]
    exact r.append (RpAll.rep r n)
def dMulL : D → D → Option Mu
  | .list ds, .int k => if decide (-1000000 ≤ k ∧ k ≤ 1000000 ∧ ds.length * k.toNat ≤ 1000000) = true then some (.l (repD k.toNat ds)) else none
  | _, _ => none
theorem om_mul : OpM K rRep dMulL := by
  intro O H x y d e z hO l1 l2 hz Q q
  match d, e, hz, l1, l2 with
  | .list ds, .int k, hz, l1, l2 =>
    simp only [dMulL] at hz
    split at hz
    · rename_i h
      cases hz
      have h := of_decide_eq_true h
      obtain ⟨a, xs, rfl, s1, r1⟩ := l1
      cases Rp.sc l2
      exact ⟨a, k, xs, rfl, rfl, s1, by omega, by omega, by rw [r1.length, sizeLine_eq]; omega, fun p np => q p _ np (ext_new np) (new_lst np (RpAll.rep r1 k.toNat))⟩
    · cases hz
def dMulX (d e : D) : Option (Sum D Mu) := (dMulL d e).map .inr
theorem ox_mul : OpX K rRep dMulX := by
  intro O H x y d e z hO l1 l2 hz Q q
  simp only [dMulX, Option.map_eq_some_iff] at hz
  obtain ⟨m, hm, rfl⟩ := hz
  exact om_mul O H x y d e m hO l1 l2 hm Q q
theorem c_mulX {ds : List D} {k : Int} (h : -1000000 ≤ k) (h2 : k ≤ 1000000) (h3 : ds.length * k.toNat ≤ 1000000) : dMulX (.list ds) (.int k) = some (.inr (.l (repD k.toNat ds))) := by
  have e : dMulL (.list ds) (.int k) = some (.l (repD k.toNat ds)) := if_pos (decide_eq_true ⟨h, h2, h3⟩)
  unfold dMulX
  rw [e]; rfl
theorem c_rev {ds : List D} : gRev (.l ds) [] = some (.l ds.reverse, .none) := rfl
theorem c_popAt {ds : List D} {i : Int} {d : D} (h : 0 ≤ i) (h2 : i < ds.length) (h3 : ds.length ≤ 1000000) (h4 : ds[i.toNat]? = some d) : gPopAt (.l ds) [.int i] = some (.l (ds.eraseIdx i.toNat), d) := by
  have hs : small ds.length = true := decide_eq_true h3
  have e : ixN ds.length i = some i.toNat := by simp [ixN, h, h2]
  show (if small ds.length = true then (ixN ds.length i).bind fun k => (ds[k]?).map fun d => (Mu.l (ds.eraseIdx k), d) else none) = _
  rw [if_pos hs, e, Option.bind_some, h4]; rfl
def gExt : Mu → List D → Option (Mu × D)
  | .l ds, [.list es] => if small (ds.length + es.length) = true then some (.l (ds ++ es), .none) else none
  | _, _ => none
theorem md_ext : MtD K "list" rExtend gExt := by
  intro O H a m vs ds m' z ha mu r hz Q q
  match m, ds, hz, r with
  | .l ds, [.list es], hz, .cons (.lst he hn hr) .nil =>
    simp only [gExt] at hz
    split at hz
    · rename_i hs
      cases hz
      obtain ⟨xs, e, rr⟩ := mu
      have hs' := small_le hs
      have kp : ∀ (l : List V) b u, ¬ O b → H b = some u → upd H a (.lst l) b = some u := fun l b u n q => by rw [upd_ne (fun z => n (by subst z; exact ha))]; exact q
      exact ⟨a, _, xs, _, rfl, rfl, e, he, by rw [rr.length, hr.length]; exact hs', q _ _ ⟨_, upd_same, (rr.append hr).tr (fun _ _ _ n => n) (kp _)⟩ .non⟩
    · cases hz
theorem c_ext {ds es : List D} (h : ds.length + es.length ≤ 1000000) : gExt (.l ds) [.list es] = some (.l (ds ++ es), .none) := if_pos (decide_eq_true h)
end
end GD

/-! max(xs, default=d) -/
namespace GD
open PySem PySem.Spec PyProof.Rows L2
section
variable {prog : Program} {w : World} {A : Around} {E : Value → Shared → Prop} {s : Shared}
/-- a built-in function called with keywords, which may go on as another code -/
theorem call_fun_kw {id : String} {b : Builtin} {vs : List Value} {kw : List (Str × Value)} {Q : Value → Shared → Prop} (h1 : builtinKind id = none) (h2 : plainId id = true) (h3 : entryFor table id = some b) (h4 : argsOk id ⟨vs, kw⟩)
    (go : wpAny (model prog w) A.in1 (b ⟨vs, kw⟩) (fun fin s' => match fin with
      | .done f => (match (Except.ok f : Result) with | .ok (.ret v) => Q v s' | .ok _ => False | .error e => E e s')
      | .again c => c.quiet = true ∧ codeAny (model prog w) A c (fun r s' => match r with | .ok (.ret v) => Q v s' | .ok _ => False | .error e => E e s') s') E s) : wpAny (model prog w) A (call (.builtin id) vs kw) Q E s := by
  refine wpAny_call (codeAny_call_builtin h2 h3 ?_)
  simp only [checkBuiltinCall, h1]
  cases h5 : Manifest.signature? id with
  | none => exact wpAny_pure go
  | some sg =>
    have h6 : Bind.checkArgs id sg ⟨vs, kw⟩ = pure () := by simpa only [argsOk, h5] using h4
    simp only [h6]; exact wpAny_pure go
end
abbrev kwD (d : Value) : List (Str × Value) := [("default", d)]
section
variable {prog : Program} {w : World} {A : Around} {R : Result → Shared → Prop} {I : Addr} {fp wr : List Addr} {n : Nat} {P : Nat → Value → Prop} {St : Nat → Heap → Prop} {d : Value}
theorem mxd_loop (W : Walks prog w A.in1 I fp wr n P St) (bt : Nat → Nat → Bool) (cmp : CmpOf prog w A.in1 .Gt P bt) (L : Addr) (hLf : L ∉ fp) : ∀ (k j : Nat) (s : Shared) (u : Value) (c : Nat), n - (j + 1) = k → j + 1 ≤ n → St (j + 1) s.heap → P (argBest bt j) u →
    s.heap.get? L = some { cls := .type "list", dict := none, data := .seq #[u, u] c, slots := #[] } → (∀ v h' tk, P (argBest bt (n - 1)) v → (∀ b o, b ∉ wr → b ≠ L → s.heap.get? b = some o → h'.get? b = some o) → R (.ok (.ret v)) { s with heap := h', toks := tk }) →
    codeAny (model prog w) A (.builtin "max.loop" ⟨[.ref I, .none, .ref L], kwD d⟩) R s := by
  have hLw : L ∉ wr := fun z => hLf (W.sub _ z)
  have nm : (toString "max" ++ toString ".loop" : String) = "max.loop" := by decide
  intro k
  induction k with
  | zero =>
    intro j s u c hk hj st hu hL q
    have hjn : j + 1 = n := by omega
    refine codeAny_builtin F.entry_max_loop ?_; rw [Around.under_plainId F.plain_max_loop _]
    show wpAny _ A.in1 (seqItems? (.ref L) >>= _) _ _ s
    refine wpAny_bind (wpAny_seqItems hL rfl ?_); show wpAny _ A.in1 (tryCatch (pyNext (.ref I)) _ >>= _) _ _ s
    refine wpAny_bind (wpAny_tryCatch (W.done s _ _ (hjn ▸ st) fun h' tk keep => ?_))
    have hL2 := keep L _ hLw hL
    show wpAny _ A.in1 (updateSeq L (fun _ => #[]) >>= _) _ _ _
    refine wpAny_bind (wpAny_updateSeq hL2 rfl (wpAny_bind (wpAny_letGo (wpAny_pure ?_))))
    exact q u _ tk (by rw [← hjn]; exact hu) fun b o n1 n2 e => (Heap.get?_update_other _ _ (Ne.symm n2)).trans (keep b o n1 e)
  | succ k ih =>
    intro j s u c hk hj st hu hL q
    have hjn : j + 1 < n := by omega
    refine codeAny_builtin F.entry_max_loop ?_; rw [Around.under_plainId F.plain_max_loop _]
    show wpAny _ A.in1 (seqItems? (.ref L) >>= _) _ _ s
    refine wpAny_bind (wpAny_seqItems hL rfl ?_); show wpAny _ A.in1 (tryCatch (pyNext (.ref I)) _ >>= _) _ _ s
    refine wpAny_bind (wpAny_tryCatch (W.item (j + 1) s _ _ hjn st fun v h' tk hv st2 keep => ?_))
    have hL2 := keep L _ hLw hL
    show wpAny _ A.in1 (tryCatch (holding [v, v] (richCompare .Gt v u >>= _)) _ >>= _) _ _ _
    refine wpAny_bind (wpAny_tryCatch (wpAny_holding (wpAny_bind (cmp (j + 1) (argBest bt j) v u _ _ _ hv hu ?_))))
    refine wpAny_bind (wpAny_holding (wpAny_truthy_bool ?_)); refine wpAny_bind (wpAny_letGo (wpAny_pure ?_))
    cases hb : bt (j + 1) (argBest bt j) with
    | true =>
      simp only [if_true]; refine wpAny_bind (wpAny_updateSeq hL2 rfl (wpAny_bind (wpAny_letGo ?_)))
      rw [nm]
      refine wpAny_pure ⟨plainId_quiet F.plain_max_loop _, ih (j + 1) _ v _ (by omega) hjn (W.frame _ _ _ st2 fun b hbf o e => ?_) (by simp only [argBest, hb, if_true]; exact hv) (Heap.get?_update_self _ hL2 rfl) fun v2 h2 tk2 hv2 keep2 => ?_⟩
      · exact (Heap.get?_update_other _ _ (fun z : L = b => hLf (by rw [z]; exact hbf))).trans e
      · exact q v2 h2 tk2 hv2 fun b o n1 n2 e => keep2 b o n1 n2 ((Heap.get?_update_other _ _ (Ne.symm n2)).trans (keep b o n1 e))
    | false =>
      simp only [Bool.false_eq_true, if_false]; refine wpAny_bind (wpAny_letGo ?_)
      rw [nm]
      refine wpAny_pure ⟨plainId_quiet F.plain_max_loop _, ih (j + 1) _ u c (by omega) hjn st2 (by simp only [argBest, hb, Bool.false_eq_true, if_false]; exact hu) hL2 fun v2 h2 tk2 hv2 keep2 => ?_⟩
      exact q v2 h2 tk2 hv2 fun b o n1 n2 e => keep2 b o n1 n2 (keep b o n1 e)
theorem mxd_first (W : Walks prog w A.in1 I fp wr n P St) (bt : Nat → Nat → Bool) (cmp : CmpOf prog w A.in1 .Gt P bt) (L : Addr) (hLf : L ∉ fp) {s : Shared} {c : Nat} (st : St 0 s.heap) (hL : s.heap.get? L = some { cls := .type "list", dict := none, data := .seq #[] c, slots := #[] })
    (q0 : n = 0 → ∀ h' tk, (∀ b o, b ∉ wr → b ≠ L → s.heap.get? b = some o → h'.get? b = some o) → R (.ok (.ret d)) { s with heap := h', toks := tk })
    (q : 0 < n → ∀ v h' tk, P (argBest bt (n - 1)) v → (∀ b o, b ∉ wr → b ≠ L → s.heap.get? b = some o → h'.get? b = some o) → R (.ok (.ret v)) { s with heap := h', toks := tk }) :
    codeAny (model prog w) A (.builtin "max.loop" ⟨[.ref I, .none, .ref L], kwD d⟩) R s := by
  have hLw : L ∉ wr := fun z => hLf (W.sub _ z)
  have nm : (toString "max" ++ toString ".loop" : String) = "max.loop" := by decide
  refine codeAny_builtin F.entry_max_loop ?_; rw [Around.under_plainId F.plain_max_loop _]
  show wpAny _ A.in1 (seqItems? (.ref L) >>= _) _ _ s
  refine wpAny_bind (wpAny_seqItems hL rfl ?_); show wpAny _ A.in1 (tryCatch (pyNext (.ref I)) _ >>= _) _ _ s
  by_cases hn : 0 < n
  · refine wpAny_bind (wpAny_tryCatch (W.item 0 s _ _ hn st fun v h' tk hv st2 keep => ?_))
    have hL2 := keep L _ hLw hL
    show wpAny _ A.in1 (updateSeq L (fun _ => #[v, v]) >>= _) _ _ _
    refine wpAny_bind (wpAny_updateSeq hL2 rfl ?_)
    rw [nm]
    refine wpAny_pure ⟨plainId_quiet F.plain_max_loop _, mxd_loop W bt cmp L hLf _ 0 _ v _ rfl hn (W.frame _ _ _ st2 fun b hbf o e => ?_) hv (Heap.get?_update_self _ hL2 rfl) fun v2 h2 tk2 hv2 keep2 => ?_⟩
    · exact (Heap.get?_update_other _ _ (fun z : L = b => hLf (by rw [z]; exact hbf))).trans e
    · exact q hn v2 h2 tk2 hv2 fun b o n1 n2 e => keep2 b o n1 n2 ((Heap.get?_update_other _ _ (Ne.symm n2)).trans (keep b o n1 e))
  · have h0 : n = 0 := by omega
    refine wpAny_bind (wpAny_tryCatch (W.done s _ _ (h0 ▸ st) fun h' tk keep => ?_))
    show wpAny _ A.in1 (rule _ >>= _) _ _ _
    refine wpAny_bind (wpAny_rule (wpAny_pure ?_))
    exact q0 h0 h' tk fun b o n1 n2 e => keep b o n1 e
end
section
variable {prog : Program} {w : World} {A : Around} {E : Value → Shared → Prop} {s : Shared}
theorem args_mxd (a d : Value) : argsOk "max" ⟨[a], kwD d⟩ := by unfold argsOk; kernel_rfl
theorem max_dflt {l : Addr} {its : List Value} {ns : List Int} {d : Value} {Q : Value → Shared → Prop} (hh : A.handled = none) (hl : s.heap.IsList l its.toArray) (hi : IntsAre its ns)
    (q0 : ns.length = 0 → ∀ h' tk, (∀ b o, s.heap.get? b = some o → h'.get? b = some o) → Q d { s with heap := h', toks := tk })
    (q : ∀ h' tk M t', (∀ b o, s.heap.get? b = some o → h'.get? b = some o) → M ∈ ns → (∀ a, a ∈ ns → a ≤ M) → Q (.int M t') { s with heap := h', toks := tk }) : wpAny (model prog w) A (call (.builtin "max") [.ref l] (kwD d)) Q E s := by
  obtain ⟨xs, e⟩ := hi.allInts.items
  have hn : numsOf (intItems xs).toList = ns := by rw [← e]; exact hi.numsOf
  rw [nums_intItems] at hn; subst hn
  rw [e] at hl
  have nm : (toString "max" ++ toString ".loop" : String) = "max.loop" := by decide
  refine call_fun_kw F.kind_max F.plain_max F.entry_max (args_mxd _ _) ?_
  show wpAny _ A.in1 (Builtin.Builtins.bindParams "max" ["key", "default"] 0 ⟨[], kwD d⟩ >>= _) _ _ s
  refine wpAny_bind (wpAny_of_eq (show Builtin.Builtins.bindParams "max" ["key", "default"] 0 ⟨[], kwD d⟩ = pure [none, some d] from rfl) ?_)
  refine wpAny_bind (wpAny_pure ?_); refine wpAny_bind (iter_intList hl fun s₂ e2 st hfp hne => ?_)
  subst e2
  refine wpAny_bind (wpAny_newObj_type ?_)
  rw [nm]
  have sz : (s.heap.push { cls := .type "list_iterator", data := .fields #[.ref l, .int 0 0] }).objs.size = s.heap.objs.size + 1 := Heap.size_push ..
  have old : ∀ {h' : Heap}, (∀ b o, b ∉ [s.heap.objs.size] → b ≠ (s.heap.push { cls := .type "list_iterator", data := .fields #[.ref l, .int 0 0] }).objs.size → ((s.heap.push { cls := .type "list_iterator", data := .fields #[.ref l, .int 0 0] }).push { cls := .type "list", data := .seq ([] : List Value).toArray }).get? b = some o → h'.get? b = some o) → ∀ b o, s.heap.get? b = some o → h'.get? b = some o := fun hk b o e => by
    have hb := Heap.lt_size e
    refine hk b o (fun hm => ?_) (by rw [sz]; exact Nat.ne_of_lt (Nat.lt_succ_of_lt hb)) (Heap.get?_push_of_some _ (Heap.get?_push_of_some _ e))
    exact absurd (List.mem_singleton.mp hm) (Nat.ne_of_lt hb)
  have hW := Walks.list (prog := prog) (w := w) (A := A.in1) hh s.heap.objs.size l hne (intItems xs)
  refine wpAny_pure ⟨plainId_quiet F.plain_max_loop _, mxd_first hW _ (CmpOf.ints_gt (numAt xs) (fun _ _ => intItems_at)) _ (fun hm => Nat.lt_irrefl _ (hfp _ hm)) (hW.frame _ _ _ st fun b _ o e => Heap.get?_push_of_some _ e) (Heap.get?_push_size _ rfl) (fun h0 h' tk keep => ?_) fun h0 v h' tk hv keep => ?_⟩
  · exact q0 (by simpa [intItems] using h0) h' tk (old keep)
  · have hsz : 0 < xs.size := by simpa [intItems] using h0
    have hv' : (intItems xs)[argBest (fun i j => decide (numAt xs i > numAt xs j)) (xs.size - 1)]? = some v := by simpa [intItems] using hv
    obtain ⟨t, rfl⟩ := intItems_at hv'
    obtain ⟨h1, h2⟩ := argBest_gt (numAt xs) (xs.size - 1)
    refine q h' tk _ t (old keep) ?_ fun a ha => ?_
    · rw [numAt_eq]; exact PySem.getD_mem (by rw [List.length_map, Array.length_toList]; omega)
    · obtain ⟨j, hj, rfl⟩ := mem_getD ha
      rw [List.length_map, Array.length_toList] at hj; rw [← numAt_eq]; exact h2 j (by omega)
end
def maxOf : List Int → Int → Int
  | [], d => d
  | n :: l, _ => l.foldl max n
theorem foldl_max : ∀ (l : List Int) (n : Int), (l.foldl max n ∈ n :: l) ∧ ∀ a ∈ n :: l, a ≤ l.foldl max n
  | [], n => ⟨List.mem_cons_self .., fun a h => by rw [List.mem_singleton] at h; subst h; exact Int.le_refl _⟩
  | m :: l, n => by
    obtain ⟨h1, h2⟩ := foldl_max l (max n m)
    have h3 := h2 _ (List.mem_cons_self ..)
    rw [List.foldl_cons]
    refine ⟨?_, fun a h => ?_⟩
    · rcases List.mem_cons.mp h1 with h | h
      · rw [h]
        rcases Int.le_total n m with z | z
        · rw [Int.max_eq_right z]; simp
        · rw [Int.max_eq_left z]; simp
      · simp [h]
    · rcases List.mem_cons.mp h with h | h
      · omega
      · rcases List.mem_cons.mp h with h | h
        · omega
        · exact h2 a (List.mem_cons_of_mem _ h)
theorem maxOf_eq {ns : List Int} {d m : Int} (h : m ∈ ns) (h2 : ∀ a ∈ ns, a ≤ m) : maxOf ns d = m := by
  cases ns with
  | nil => cases h
  | cons n l =>
    obtain ⟨h3, h4⟩ := foldl_max l n
    exact Int.le_antisymm (h2 _ h3) (h4 _ h)
section
variable {X : Cx} {K : PySem.W.Frag}
def rMaxD (K : PySem.W.Frag) : List V → List V → Hp → VK → Prop := fun xs zs H Q => ∃ a ns d, xs = [.ref a] ∧ zs = [.int d] ∧ SqL K H a (ns.map V.int) ∧ Q (.int (maxOf ns d)) H
theorem cr_maxD (hc : X.calm = true) : CallRK X (.builtin "max") ["default"] (rMaxD X.K) := by
  intro pins s σ H xs zs us ws Q I r rz h
  obtain ⟨a, ns, d, rfl, rfl, hs, q⟩ := h
  obtain ⟨its, rv, hl, _⟩ := I.list hs
  rw [Vals.ref1 r]
  cases rz with
  | cons rd rt =>
    cases rt
    refine max_dflt (I.ok.hd hc) hl.isList rv.ints (fun h0 h' tk hk => ⟨.int d, H, I.kept hk, rd, ?_⟩) fun h' tk m t' hk h1 h2 => ⟨.int m, H, I.kept hk, ⟨_, rfl⟩, ?_⟩
    · have e : ns = [] := List.length_eq_zero_iff.mp h0
      subst e; exact q
    · rw [maxOf_eq h1 h2] at q; exact q
def intsOf : List D → Option (List Int)
  | [] => some []
  | .int b :: l => (intsOf l).map fun bs => b :: bs
  | _ => none
theorem intsOf_ok {O : Addr → Prop} {H : Hp} : ∀ {vs : List V} {ds : List D} {bs : List Int}, RpAll K O H vs ds → intsOf ds = some bs → vs = bs.map V.int
  | _, _, bs, .nil, h => by simp [intsOf] at h; subst h; rfl
  | _, d :: ds, bs, .cons r t, h => by
    cases d with
    | int b =>
      simp only [intsOf, Option.map_eq_some_iff] at h
      obtain ⟨l, h, rfl⟩ := h
      cases Rp.sc r
      rw [List.map_cons, ← intsOf_ok t h]
    | _ => simp [intsOf] at h
theorem intsOf_map (ys : List Int) : intsOf (ys.map .int) = some ys := by induction ys <;> simp_all [intsOf]
def cMaxD : List D → List D → Option D
  | [.list ds], [.int d] => (intsOf ds).map fun ns => .int (maxOf ns d)
  | _, _ => none
theorem c_maxD {ns : List Int} {d : Int} : cMaxD [.list (ns.map .int)] [.int d] = some (.int (maxOf ns d)) := by
  simp only [cMaxD, intsOf_map]; rfl
/-! a built-in with keywords -/
def cakR3 (g : List D → List D → Option D) (e : En) (ds : List D) : Option (List D) → Option (R × En)
  | some es => vR e (g ds es)
  | none => none
def cakR2 (g : List D → List D → Option D) (e : En) (w : List R) : Option (List D) → Option (R × En)
  | some ds => cakR3 g e ds (rsA e w)
  | none => none
def cakR1 (g : List D → List D → Option D) (l : List R) : Option (List R × En) → Option (R × En)
  | some (w, e) => cakR2 g e w (rsA e l)
  | none => none
def cakR (g : List D → List D → Option D) (fk : EvA) : Option (List R × En) → Option (R × En)
  | some (l, e) => cakR1 g l (fk e)
  | none => none
def eCaK (g : List D → List D → Option D) (fl fk : EvA) : EvE := fun env => cakR g fk (fl env)
section
variable {g : List D → List D → Option D} {fl fk : EvA} {env e : En} {l w : List R} {ds es : List D}
theorem q_cak : eCaK g fl fk env = cakR g fk (fl env) := rfl
theorem q_cak0 : cakR g fk (some (l, e)) = cakR1 g l (fk e) := rfl
theorem q_cak1 : cakR1 g l (some (w, e)) = cakR2 g e w (rsA e l) := rfl
theorem q_cak2 : cakR2 g e w (some ds) = cakR3 g e ds (rsA e w) := rfl
theorem q_cak3 : cakR3 g e ds (some es) = vR e (g ds es) := rfl
end
theorem ie_maxD {tl tk : TA} {fl fk : EvA} (hl : IA K tl fl) (hk : IA K tk fk) : IE K (tCKw (rMaxD K) tl tk) (eCaK cMaxD fl fk) := by
  intro F T env σ H r env' S e Q q
  simp only [eCaK] at e
  cases a1 : fl env with
  | none => rw [a1] at e; cases e
  | some p =>
    obtain ⟨l, e1⟩ := p
    rw [a1] at e
    simp only [cakR] at e
    cases a2 : fk e1 with
    | none => rw [a2] at e; cases e
    | some p2 =>
      obtain ⟨w, e2⟩ := p2
      rw [a2] at e
      simp only [cakR1] at e
      cases a3 : rsA e2 l with
      | none => rw [a3] at e; cases e
      | some ds =>
        rw [a3] at e
        simp only [cakR2] at e
        cases a4 : rsA e2 w with
        | none => rw [a4] at e; cases e
        | some es =>
          rw [a4] at e
          simp only [cakR3] at e
          cases a5 : cMaxD ds es with
          | none => rw [a5] at e; cases e
          | some z =>
            rw [a5] at e
            cases e
            refine hl F T env σ H l _ S a1 _ fun vs H1 S1 s1 v1 => ?_
            refine hk F T e1 σ H1 w _ S1 a2 _ fun us H2 S2 s2 v2 => ?_
            have l1 := rsA_ok S2 (v1.stp s2) a3
            have l2 := rsA_ok S2 v2 a4
            match ds, es, a5, l1, l2 with
            | [.list ds], [.int d], a5, l1, l2 =>
              simp only [cMaxD, Option.map_eq_some_iff] at a5
              obtain ⟨ns, h1, rfl⟩ := a5
              obtain ⟨v, rfl, h⟩ := LvAll.one l1
              obtain ⟨v2, rfl, h2⟩ := LvAll.one l2
              obtain ⟨a, xs, rfl, hx, rx⟩ := h
              cases Rp.sc h2
              have ex := intsOf_ok rx h1
              subst ex
              exact ⟨a, ns, d, rfl, rfl, .inl (.inl hx), q _ H2 S2 (s1.trans s2) (.int _)⟩
end
end GD

set_option maxHeartbeats 2000000
/-! list(zip(t, u)), t and u tuples -/
namespace GD
open PySem PySem.Spec PyProof.Rows L2
theorem zip_nolen : typeLookup (.type "zip") "__len__" = pure none := am_miss_of_fast (by decide +kernel)
theorem zip_nohint : typeLookup (.type "zip") "__length_hint__" = pure none := am_miss_of_fast (by decide +kernel)
section
variable {prog : Program} {w : World} {A : Around} {E : Value → Shared → Prop} {s : Shared} {z TI TO T i1 i2 l1 l2 S : Addr} {f : Bool} {oT : Obj} {xs ys : Array Value} {x y : Value} {i : Nat}
theorem zth_item {Q : Value → Shared → Prop} (D : ZipApart z TI TO i1 i2 l1 l2) (hz : IsZipHeld s.heap z TI TO T f) (hT : s.heap.get? T = some oT) (hTI : IsPair s.heap TI (.ref i1) (.ref i2))
    (t1 : s.heap.IsTupleIter i1 l1 i) (t2 : s.heap.IsTupleIter i2 l2 i) (p1 : s.heap.IsTuple l1 xs) (p2 : s.heap.IsTuple l2 ys) (hx : xs[i]? = some x) (hy : ys[i]? = some y)
    (q : ∀ h', IsZipHeld h' z TI TO T true → h'.IsTupleIter i1 l1 (i + 1) → h'.IsTupleIter i2 l2 (i + 1) → IsPair h' s.heap.objs.size x y → h'.objs.size = s.heap.objs.size + 1 → (∀ c o, c ≠ z → c ≠ i1 → c ≠ i2 → s.heap.get? c = some o → h'.get? c = some o) → Q (.ref s.heap.objs.size) { s with heap := h' }) :
    wpAny (model prog w) A (Builtin.«zip.__next__» ⟨[.ref z], []⟩) (fun fin s' => ∃ v, fin = .done (.ret v) ∧ Q v s') E s := by
  show wpAny _ _ (field (.ref z) 2 >>= _) _ _ _; refine wpAny_bind (wpAny_field hz rfl (x := .bool false) rfl ?_)
  show wpAny _ _ (field (.ref z) 3 >>= _) _ _ _; refine wpAny_bind (wpAny_field hz rfl (x := .ref TI) rfl ?_); refine wpAny_bind (wpAny_seqItems hTI rfl ?_)
  show wpAny _ _ (Builtin.SmallTypes.ownedTupleIsFree (.ref z) >>= _) _ _ _; refine wpAny_bind (wpAny_tupleHeld_zip hz hT fun h₁ hz₁ b₁ => ?_)
  simp only [Bool.false_eq_true, if_false]; refine wpAny_bind ?_
  rw [← Array.forIn_toList]; simp only [List.forIn_cons, List.forIn_nil]
  refine wpAny_bind (wpAny_bind (wpAny_holding ?_)); show wpAny _ _ (Builtin.SmallTypes.nextOf (.ref i1) >>= _) _ _ _
  refine wpAny_bind (RZ.nextOf_tuple_item (s := { s with heap := h₁ }) (t1.extBut b₁.extBut D.i1z) (p1.extBut b₁.extBut D.l1z) hx fun h₂ t1' b₂ => wpAny_pure ?_)
  refine wpAny_pure ?_; refine wpAny_bind (wpAny_bind (wpAny_holding ?_)); show wpAny _ _ (Builtin.SmallTypes.nextOf (.ref i2) >>= _) _ _ _
  refine wpAny_bind (RZ.nextOf_tuple_item (s := { s with heap := h₂ }) ((t2.extBut b₁.extBut D.i2z).extBut b₂.extBut D.i12.symm) ((p2.extBut b₁.extBut D.l2z).extBut b₂.extBut D.l2i1) hy fun h₃ t2' b₃ => wpAny_pure ?_)
  refine wpAny_pure (wpAny_pure ?_); show wpAny _ _ (newTuple [x, y] >>= _) _ _ _
  refine wpAny_bind (wpAny_newTuple ?_)
  have sz : h₃.objs.size = s.heap.objs.size := by rw [b₃.1, b₂.1, b₁.1]
  have hz₃ : IsZipHeld h₃ z TI TO T true := b₃.extBut _ _ D.i2z.symm (b₂.extBut _ _ D.i1z.symm hz₁)
  have kp : ∀ c o, c ≠ z → c ≠ i1 → c ≠ i2 → s.heap.get? c = some o → h₃.get? c = some o := fun c o c1 c2 c3 e => b₃.extBut _ _ c3 (b₂.extBut _ _ c2 (b₁.extBut _ _ c1 e))
  refine wpAny_pure ⟨_, rfl, ?_⟩
  show Q (.ref h₃.objs.size) _
  have pr : IsPair (h₃.push { cls := .type "tuple", data := .seq #[x, y] }) h₃.objs.size x y := Heap.get?_push_size _ rfl
  have s4 : (h₃.push { cls := .type "tuple", data := .seq #[x, y] }).objs.size = h₃.objs.size + 1 := Heap.size_push ..
  rw [sz] at pr s4 ⊢
  exact q _ (Heap.get?_push_of_some _ hz₃) ((t1'.extBut b₃.extBut D.i12).at fun o e => Heap.get?_push_of_some _ e) (t2'.at fun o e => Heap.get?_push_of_some _ e) pr s4 fun c o c1 c2 c3 e => Heap.get?_push_of_some _ (kp c o c1 c2 c3 e)
theorem zth_end {Q : Fin → Shared → Prop} (hh : A.handled = none) (D : ZipApart z TI TO i1 i2 l1 l2) (hz : IsZipHeld s.heap z TI TO T f) (hT : s.heap.get? T = some oT) (hTI : IsPair s.heap TI (.ref i1) (.ref i2))
    (t1 : s.heap.IsTupleIter i1 l1 i) (t2 : s.heap.IsTupleIter i2 l2 i) (p1 : s.heap.IsTuple l1 xs) (p2 : s.heap.IsTuple l2 ys) (hend : xs[i]? = none ∨ ys[i]? = none)
    (q : ∀ h' e, (∀ c o, c ≠ z → c ≠ i1 → c ≠ i2 → s.heap.get? c = some o → h'.get? c = some o) → (∃ o, h'.get? e = some o ∧ o.cls = .type "StopIteration") → E (.ref e) { s with heap := h' }) :
    wpAny (model prog w) A (Builtin.«zip.__next__» ⟨[.ref z], []⟩) Q E s := by
  show wpAny _ _ (field (.ref z) 2 >>= _) _ _ _; refine wpAny_bind (wpAny_field hz rfl (x := .bool false) rfl ?_)
  show wpAny _ _ (field (.ref z) 3 >>= _) _ _ _; refine wpAny_bind (wpAny_field hz rfl (x := .ref TI) rfl ?_); refine wpAny_bind (wpAny_seqItems hTI rfl ?_)
  show wpAny _ _ (Builtin.SmallTypes.ownedTupleIsFree (.ref z) >>= _) _ _ _; refine wpAny_bind (wpAny_tupleHeld_zip hz hT fun h₁ hz₁ b₁ => ?_)
  simp only [Bool.false_eq_true, if_false]; refine wpAny_bind ?_
  rw [← Array.forIn_toList]; simp only [List.forIn_cons, List.forIn_nil]
  refine wpAny_bind (wpAny_bind (wpAny_holding ?_)); show wpAny _ _ (Builtin.SmallTypes.nextOf (.ref i1) >>= _) _ _ _
  cases hx : xs[i]? with
  | none =>
    refine wpAny_bind (RZ.nextOf_tuple_end (s := { s with heap := h₁ }) hh (t1.extBut b₁.extBut D.i1z) (p1.extBut b₁.extBut D.l1z) hx fun h₂ e b₂ he => ?_)
    exact q h₂ e (fun c o c1 c2 _ x => b₂ _ _ c2 (b₁.extBut _ _ c1 x)) he
  | some x =>
    have hy : ys[i]? = none := by rcases hend with h | h; rw [hx] at h; cases h; exact h
    refine wpAny_bind (RZ.nextOf_tuple_item (s := { s with heap := h₁ }) (t1.extBut b₁.extBut D.i1z) (p1.extBut b₁.extBut D.l1z) hx fun h₂ t1' b₂ => wpAny_pure ?_)
    refine wpAny_pure ?_; refine wpAny_bind (wpAny_bind (wpAny_holding ?_)); show wpAny _ _ (Builtin.SmallTypes.nextOf (.ref i2) >>= _) _ _ _
    refine wpAny_bind (RZ.nextOf_tuple_end (s := { s with heap := h₂ }) hh ((t2.extBut b₁.extBut D.i2z).extBut b₂.extBut D.i12.symm) ((p2.extBut b₁.extBut D.l2z).extBut b₂.extBut D.l2i1) hy fun h₃ e b₃ he => ?_)
    exact q h₃ e (fun c o c1 c2 c3 x => b₃ _ _ c3 (b₂.extBut _ _ c2 (b₁.extBut _ _ c1 x))) he
/-- the zip as it stands behind i turns, the list being made at S -/
def ZSt (h : Heap) (z TI TO i1 i2 l1 l2 S : Addr) (xs ys : Array Value) (i : Nat) : Prop :=
  IsPair h TI (.ref i1) (.ref i2) ∧ h.IsTupleIter i1 l1 i ∧ h.IsTupleIter i2 l2 i ∧ h.IsTuple l1 xs ∧ h.IsTuple l2 ys ∧ ((IsZip h z TI TO .none ∧ ∃ a b, IsPair h TO a b) ∨ ∃ T f oT, IsZipHeld h z TI TO T f ∧ h.get? T = some oT ∧ T ≠ z ∧ T ≠ i1 ∧ T ≠ i2 ∧ T ≠ S)
/-- apart from the list -/
structure ZOff (z TI TO i1 i2 l1 l2 S : Addr) : Prop where
  a : z ≠ S
  b : TI ≠ S
  c : TO ≠ S
  d : i1 ≠ S
  e : i2 ≠ S
  f : l1 ≠ S
  g : l2 ≠ S
theorem ZSt.frame {h h' : Heap} (O : ZOff z TI TO i1 i2 l1 l2 S) (st : ZSt h z TI TO i1 i2 l1 l2 S xs ys i) (k : ∀ b o, b ≠ S → h.get? b = some o → h'.get? b = some o) : ZSt h' z TI TO i1 i2 l1 l2 S xs ys i := by
  obtain ⟨a1, a2, a3, a4, a5, a6⟩ := st
  refine ⟨k _ _ O.b a1, a2.at fun o e => k _ o O.d e, a3.at fun o e => k _ o O.e e, a4.at fun o e => k _ o O.f e, a5.at fun o e => k _ o O.g e, ?_⟩
  rcases a6 with ⟨a6, a, b, a7⟩ | ⟨T, f, oT, a6, a7, r1, r2, r3, r4⟩
  · exact .inl ⟨k _ _ O.a a6, a, b, k _ _ O.c a7⟩
  · exact .inr ⟨T, f, oT, k _ _ O.a a6, k _ _ r4 a7, r1, r2, r3, r4⟩
theorem zs_item {Q : Option Value → Shared → Prop} (D : ZipApart z TI TO i1 i2 l1 l2) (hS : S < s.heap.objs.size) (st : ZSt s.heap z TI TO i1 i2 l1 l2 S xs ys i) (hx : xs[i]? = some x) (hy : ys[i]? = some y)
    (q : ∀ h', ZSt h' z TI TO i1 i2 l1 l2 S xs ys (i + 1) → IsPair h' s.heap.objs.size x y → h'.objs.size = s.heap.objs.size + 1 → (∀ c o, c ≠ z → c ≠ TO → c ≠ i1 → c ≠ i2 → s.heap.get? c = some o → h'.get? c = some o) → Q (some (.ref s.heap.objs.size)) { s with heap := h' }) : wpAny (model prog w) A (pyNext (.ref z)) Q E s := by
  obtain ⟨a1, a2, a3, a4, a5, a6⟩ := st
  have lt : ∀ {c o}, s.heap.get? c = some o → s.heap.objs.size ≠ c := fun e => Nat.ne_of_gt (Heap.lt_size e)
  have n1 : s.heap.objs.size ≠ i1 := let ⟨_, e, _⟩ := a2; lt e
  have n2 : s.heap.objs.size ≠ i2 := let ⟨_, e, _⟩ := a3; lt e
  rcases a6 with ⟨a6, a, b, a7⟩ | ⟨T, f, oT, a6, a7, r1, r2, r3, r4⟩
  · refine RZ.pyNext_zipT_item D a6 a1 a7 a2 a3 a4 a5 hx hy fun h' b1 b2 b3 b4 b5 b6 hk => q h' ⟨hk _ _ D.TIz D.TITO D.TIi1 D.TIi2 a1, b3, b4, a4.at fun o e => hk _ o D.l1z D.l1TO D.l1i1 D.l1i2 e, a5.at fun o e => hk _ o D.l2z D.l2TO D.l2i1 D.l2i2 e, .inr ⟨_, false, _, b1, b5, lt a6, n1, n2, Nat.ne_of_gt hS⟩⟩ b5 b6 hk
  · have hTy : s.TypeIs (.ref z) "zip" := ⟨_, a6, rfl⟩
    unfold pyNext
    refine wpAny_bind (wpAny_attempt (wpAny_callSpecial?_slot (name := Str.ofString "__next__") hTy F.slot_zip_next (wpAny_call_entry F.slot_zip_next hTy F.entry_zip_next (zth_item D a6 a7 a1 a2 a3 a4 a5 hx hy fun h' b1 b3 b4 b5 b6 hk => wpAny_pure ?_) (F.args_zip_next_1 _))))
    exact q h' ⟨hk _ _ D.TIz D.TIi1 D.TIi2 a1, b3, b4, a4.at fun o e => hk _ o D.l1z D.l1i1 D.l1i2 e, a5.at fun o e => hk _ o D.l2z D.l2i1 D.l2i2 e, .inr ⟨T, true, oT, b1, hk _ _ r1 r2 r3 a7, r1, r2, r3, r4⟩⟩ b5 b6 fun c o c1 _ c3 c4 e => hk c o c1 c3 c4 e
theorem zs_end {Q : Option Value → Shared → Prop} (hh : A.handled = none) (D : ZipApart z TI TO i1 i2 l1 l2) (st : ZSt s.heap z TI TO i1 i2 l1 l2 S xs ys i) (hend : xs[i]? = none ∨ ys[i]? = none)
    (q : ∀ h', (∀ c o, c ≠ z → c ≠ TO → c ≠ i1 → c ≠ i2 → s.heap.get? c = some o → h'.get? c = some o) → Q none { s with heap := h' }) : wpAny (model prog w) A (pyNext (.ref z)) Q E s := by
  obtain ⟨a1, a2, a3, a4, a5, a6⟩ := st
  rcases a6 with ⟨a6, a, b, a7⟩ | ⟨T, f, oT, a6, a7, r1, r2, r3, r4⟩
  · exact RZ.pyNext_zipT_end hh D a6 a1 a7 a2 a3 a4 a5 hend q
  · have hTy : s.TypeIs (.ref z) "zip" := ⟨_, a6, rfl⟩
    unfold pyNext
    refine wpAny_bind (wpAny_attempt (wpAny_callSpecial?_slot (name := Str.ofString "__next__") hTy F.slot_zip_next (wpAny_call_entry F.slot_zip_next hTy F.entry_zip_next (zth_end hh D a6 a7 a1 a2 a3 a4 a5 hend fun h' e hk he => ?_) (F.args_zip_next_1 _))))
    obtain ⟨o, ho, hc⟩ := he
    refine wpAny_bind (wpAny_isInstance (T := "StopIteration") (b := true) ⟨o, ho, hc⟩ isSubtype_stop ?_)
    exact wpAny_pure (q _ fun c o c1 _ c3 c4 e => hk c o c1 c3 c4 e)
end
/-- the pairs made, in order, above lo -/
structure LzG (xs ys : Array Value) (lo : Addr) (h : Heap) (as : List Addr) : Prop where
  rise : as.Pairwise (· < ·)
  above : ∀ a ∈ as, lo < a
  pairs : ∀ (j : Nat) (a : Addr), as[j]? = some a → ∃ x y, xs[j]? = some x ∧ ys[j]? = some y ∧ IsPair h a x y
theorem LzG.at {xs ys : Array Value} {lo : Addr} {h h' : Heap} {as : List Addr} (g : LzG xs ys lo h as) (k : ∀ b o, lo < b → h.get? b = some o → h'.get? b = some o) : LzG xs ys lo h' as :=
  ⟨g.rise, g.above, fun j a hj => let ⟨x, y, e1, e2, e3⟩ := g.pairs j a hj; ⟨x, y, e1, e2, k a _ (g.above a (List.mem_of_getElem? hj)) e3⟩⟩
section
variable {prog : Program} {w : World} {A : Around} {s : Shared} {R : Result → Shared → Prop} {z TI TO i1 i2 l1 l2 S : Addr} {xs ys : Array Value}
theorem lz_loop (hh : A.handled = none) (D : ZipApart z TI TO i1 i2 l1 l2) (O : ZOff z TI TO i1 i2 l1 l2 S) (lo : z < S ∧ TO < S ∧ i1 < S ∧ i2 < S) (hn : xs.size ≤ sizeLine) (res : Value) {h₁ : Heap}
    (q : ∀ h' acc c as, (∀ b o, b ≠ S → b ≠ z → b ≠ TO → b ≠ i1 → b ≠ i2 → h₁.get? b = some o → h'.get? b = some o) → h'.get? S = some { cls := .type "list", dict := none, data := .seq acc c, slots := #[] } → as.length = min xs.size ys.size → LzG xs ys S h' as → acc.toList = as.map Value.ref → R (.ok (.ret res)) { s with heap := h' }) :
    ∀ (k i : Nat) (h : Heap) (c : Nat) (acc : Array Value) (as : List Addr), min xs.size ys.size - i = k → i ≤ min xs.size ys.size → ZSt h z TI TO i1 i2 l1 l2 S xs ys i → (∀ b o, b ≠ S → b ≠ z → b ≠ TO → b ≠ i1 → b ≠ i2 → h₁.get? b = some o → h.get? b = some o) →
      h.get? S = some { cls := .type "list", dict := none, data := .seq acc c, slots := #[] } → acc.toList = as.map Value.ref → as.length = i → LzG xs ys S h as → codeAny (model prog w) A (.builtin "list.extend.loop" ⟨[.ref S, .ref z, res], []⟩) R { s with heap := h } := by
  obtain ⟨o1, o2, o3, o4⟩ := lo
  have ap : ∀ {u b : Addr}, u < S → S < b → b ≠ u := fun n1 n2 => Nat.ne_of_gt (Nat.lt_trans n1 n2)
  intro k
  induction k with
  | zero =>
    intro i h c acc as hk hi st keep hS hacc hal g
    refine codeAny_builtin PySem.F.entry_extend_loop ?_; rw [Around.under_plainId PySem.F.plain_extend_loop _]
    show wpAny _ A.in1 (pyNext (.ref z) >>= _) _ _ _
    refine wpAny_bind (zs_end (s := { s with heap := h }) (A := A.in1) hh D st ?_ fun h' hk' => wpAny_pure (q h' acc c as (fun b o b1 b2 b3 b4 b5 e => hk' b o b2 b3 b4 b5 (keep b o b1 b2 b3 b4 b5 e)) (hk' S _ (Ne.symm O.a) (Ne.symm O.c) (Ne.symm O.d) (Ne.symm O.e) hS) (by omega) (g.at fun b o hb e => hk' b o (ap o1 hb) (ap o2 hb) (ap o3 hb) (ap o4 hb) e) hacc))
    rcases Nat.le_total xs.size ys.size with z1 | z1
    · exact .inl (Array.getElem?_eq_none (by omega))
    · exact .inr (Array.getElem?_eq_none (by omega))
  | succ k ih =>
    intro i h c acc as hk hi st keep hS hacc hal g
    have ex := Array.getElem?_eq_getElem (xs := xs) (i := i) (by omega)
    have ey := Array.getElem?_eq_getElem (xs := ys) (i := i) (by omega)
    have sz : acc.size = i := by rw [← Array.length_toList, hacc, List.length_map, hal]
    have hSl : S < h.objs.size := Heap.lt_size hS
    refine codeAny_builtin PySem.F.entry_extend_loop ?_; rw [Around.under_plainId PySem.F.plain_extend_loop _]
    show wpAny _ A.in1 (pyNext (.ref z) >>= _) _ _ _
    refine wpAny_bind (zs_item (s := { s with heap := h }) D hSl st ex ey fun h' st' pr s2 hk' => ?_)
    dsimp only at pr s2 hk' ⊢
    have hS' := hk' S _ (Ne.symm O.a) (Ne.symm O.c) (Ne.symm O.d) (Ne.symm O.e) hS
    have up : ∀ b o, b ≠ S → h'.get? b = some o → (h'.update S (Obj.mapSeq (·.push (Value.ref h.objs.size)))).get? b = some o := fun b o hb e => (Heap.get?_update_other _ _ (Ne.symm hb)).trans e
    show wpAny _ A.in1 (updateSeq S (·.push (Value.ref h.objs.size)) >>= _) _ _ _
    refine wpAny_bind (wpAny_updateSeq hS' rfl (wpAny_pure ⟨plainId_quiet PySem.F.plain_extend_loop _, ih (i + 1) _ _ (acc.push (Value.ref h.objs.size)) (as ++ [h.objs.size]) (by omega) (by omega) (st'.frame O up) (fun b o b1 b2 b3 b4 b5 e => up b o b1 (hk' b o b2 b3 b4 b5 (keep b o b1 b2 b3 b4 b5 e))) (Heap.get?_update_self _ hS' rfl) (by rw [Array.toList_push, hacc, List.map_append]; rfl) (by rw [List.length_append, hal]; rfl) ⟨?_, ?_, ?_⟩⟩) (by rw [sz]; omega) (by show (acc.push (Value.ref h.objs.size)).size ≤ sizeLine + 1; rw [Array.size_push, sz]; omega))
    · refine List.pairwise_append.mpr ⟨g.rise, List.pairwise_singleton _ _, fun a ha b hb => ?_⟩
      rw [List.mem_singleton.mp hb]
      obtain ⟨j, hj⟩ := List.mem_iff_getElem?.mp ha
      obtain ⟨_, _, _, _, e⟩ := g.pairs j a hj
      exact Heap.lt_size e
    · intro a ha
      rcases List.mem_append.mp ha with ha | ha
      · exact g.above a ha
      · rw [List.mem_singleton.mp ha]; exact hSl
    · intro j b hj
      rcases Nat.lt_trichotomy j as.length with j1 | j1 | j1
      · rw [List.getElem?_append_left j1] at hj
        obtain ⟨x, y, e1, e2, e3⟩ := g.pairs j b hj
        have hb := g.above b (List.mem_of_getElem? hj)
        exact ⟨x, y, e1, e2, up b _ (Nat.ne_of_gt hb) (hk' b _ (ap o1 hb) (ap o2 hb) (ap o3 hb) (ap o4 hb) e3)⟩
      · subst j1
        have hb : h.objs.size = b := by simpa using hj
        subst hb
        exact ⟨_, _, by rw [hal]; exact ex, by rw [hal]; exact ey, up _ _ (Nat.ne_of_gt hSl) pr⟩
      · have hno : (as ++ [h.objs.size])[j]? = none := List.getElem?_eq_none (by rw [List.length_append, List.length_singleton]; omega)
        rw [hno] at hj; cases hj
end
end GD

set_option maxHeartbeats 2000000
namespace GD
open PySem PySem.Spec PyProof.Rows L2
section
variable {prog : Program} {w : World} {A : Around} {E : Value → Shared → Prop} {s : Shared} {R : Result → Shared → Prop} {z TI TO i1 i2 l1 l2 S : Addr} {xs ys : Array Value}
theorem lz_ext (hh : A.handled = none) (D : ZipApart z TI TO i1 i2 l1 l2) (O : ZOff z TI TO i1 i2 l1 l2 S) (lo : z < S ∧ TO < S ∧ i1 < S ∧ i2 < S) (hn : xs.size ≤ sizeLine) (res : Value) {c₀ : Nat} (hz : IsZip s.heap z TI TO .none)
    (st : ZSt s.heap z TI TO i1 i2 l1 l2 S xs ys 0) (hS : s.heap.get? S = some { cls := .type "list", data := .seq #[] c₀ })
    (q : ∀ h' acc c as, (∀ b o, b ≠ S → b ≠ z → b ≠ TO → b ≠ i1 → b ≠ i2 → s.heap.get? b = some o → h'.get? b = some o) → h'.get? S = some { cls := .type "list", dict := none, data := .seq acc c, slots := #[] } → as.length = min xs.size ys.size → LzG xs ys S h' as → acc.toList = as.map Value.ref → R (.ok (.ret res)) { s with heap := h' }) :
    wpAny (model prog w) A.in1 (Builtin.List.listExtendWith (.ref S) (.ref z) res) (fun fin s' => match fin with | .done f => R (.ok f) s' | .again c' => c'.quiet = true ∧ codeAny (model prog w) A c' R s') (fun e s' => R (.error e) s') s := by
  have key : ∀ (h : Heap) (c₁ : Nat), (∀ b o, b ≠ S → s.heap.get? b = some o → h.get? b = some o) → h.get? S = some { cls := .type "list", data := .seq #[] c₁ } → codeAny (model prog w) A (.builtin "list.extend.loop" ⟨[.ref S, .ref z, res], []⟩) R { s with heap := h } := by
    intro h c₁ hk hS₁
    refine lz_loop (s := s) (h₁ := s.heap) hh D O lo hn res (fun h' acc c as k1 k2 k3 k4 k5 => q h' acc c as k1 k2 k3 k4 k5) (min xs.size ys.size) 0 h c₁ #[] [] (Nat.sub_zero _) (Nat.zero_le _) (st.frame O hk) (fun b o hb _ _ _ _ e => hk b o hb e) hS₁ rfl rfl ⟨List.Pairwise.nil, (fun _ ha => nomatch ha), (fun j a hj => by simp at hj)⟩
  have hT : s.TypeIs (.ref z) "zip" := ⟨_, hz, rfl⟩
  unfold Builtin.List.listExtendWith
  refine wpAny_bind (wpAny_typeOf (T := "zip") hT ?_)
  have e1 : Builtin.List.listSameRef (.ref S) (.ref z) = false := by simp [Builtin.List.listSameRef, Ne.symm O.a]
  have e2 : (Value.type "zip" == Value.type "list") = false := by decide
  have e3 : (Value.type "zip" == Value.type "tuple") = false := by decide
  simp only [e1, e2, e3, Bool.or_false, Bool.false_eq_true, if_false]
  refine wpAny_bind (wpAny_pyIter_zip hz ?_)
  refine wpAny_bind (wpAny_holding ?_)
  unfold Builtin.List.listLengthHint
  refine wpAny_bind (wpAny_specialOf hT zip_nolen ?_)
  show wpAny _ A.in1 (specialOf (Value.ref z) (Str.ofString "__length_hint__") >>= _) _ _ _
  refine wpAny_bind (wpAny_specialOf hT zip_nohint ?_)
  refine wpAny_pure ?_
  refine wpAny_ite_split (fun _ => ?_) (fun _ => wpAny_pure ⟨plainId_quiet PySem.F.plain_extend_loop _, key _ c₀ (fun b o _ e => e) hS⟩)
  refine wpAny_bind (wpAny_rule ?_); refine wpAny_bind ?_
  show wpAny _ _ (updateSeq S (·.push .none) >>= fun _ => updateSeq S (·.pop)) _ _ _
  refine wpAny_bind (wpAny_updateSeq hS rfl ?_)
  have hS₂ := Heap.get?_update_self (Obj.mapSeq (·.push Value.none)) hS rfl
  refine wpAny_updateSeq (hz := by seq_fits) hS₂ rfl ?_
  have hS₃ := Heap.get?_update_self (Obj.mapSeq (·.pop)) hS₂ rfl
  exact wpAny_pure ⟨plainId_quiet PySem.F.plain_extend_loop _, key _ _ (fun b o hb e => (Heap.get?_update_other _ _ (Ne.symm hb)).trans ((Heap.get?_update_other _ _ (Ne.symm hb)).trans e)) hS₃⟩
theorem lz_call {a b : Value} {Q : Value → Shared → Prop} (hh : A.handled = none) (D : ZipApart z TI TO i1 i2 l1 l2) (hz : IsZip s.heap z TI TO .none) (hTI : IsPair s.heap TI (.ref i1) (.ref i2)) (hTO : IsPair s.heap TO a b)
    (t1 : s.heap.IsTupleIter i1 l1 0) (t2 : s.heap.IsTupleIter i2 l2 0) (p1 : s.heap.IsTuple l1 xs) (p2 : s.heap.IsTuple l2 ys) (hn : xs.size ≤ sizeLine)
    (q : ∀ h' acc c as, (∀ b o, b ≠ z → b ≠ TO → b ≠ i1 → b ≠ i2 → s.heap.get? b = some o → h'.get? b = some o) → h'.get? s.heap.objs.size = some { cls := .type "list", dict := none, data := .seq acc c, slots := #[] } → as.length = min xs.size ys.size → LzG xs ys s.heap.objs.size h' as → acc.toList = as.map Value.ref → Q (.ref s.heap.objs.size) { s with heap := h' }) :
    wpAny (model prog w) A (call (.type "list") [.ref z]) Q E s := by
  have lz := Heap.lt_size hz
  have lTI := Heap.lt_size hTI
  have lTO := Heap.lt_size hTO
  have l1' : i1 < s.heap.objs.size := let ⟨_, e, _⟩ := t1; Heap.lt_size e
  have l2' : i2 < s.heap.objs.size := let ⟨_, e, _⟩ := t2; Heap.lt_size e
  have l3' : l1 < s.heap.objs.size := let ⟨_, e, _⟩ := p1; Heap.lt_size e
  have l4' : l2 < s.heap.objs.size := let ⟨_, e, _⟩ := p2; Heap.lt_size e
  have O : ZOff z TI TO i1 i2 l1 l2 s.heap.objs.size := ⟨Nat.ne_of_lt lz, Nat.ne_of_lt lTI, Nat.ne_of_lt lTO, Nat.ne_of_lt l1', Nat.ne_of_lt l2', Nat.ne_of_lt l3', Nat.ne_of_lt l4'⟩
  refine callType_codes (Q₁ := fun obj s₁ => obj = .ref s.heap.objs.size ∧ s₁ = { s with heap := s.heap.push { cls := .type "list", data := .seq #[] } }) PySem.F.called_list (PySem.F.typeCall_list_1 _) PySem.F.entry_list_init (code_list_new _ ⟨rfl, rfl⟩) fun obj s₁ e => ?_
  obtain ⟨rfl, rfl⟩ := e
  have hS : (s.heap.push { cls := .type "list", data := .seq #[] }).get? s.heap.objs.size = some { cls := .type "list", data := .seq #[] } := Heap.get?_push_size _ rfl
  refine ⟨⟨_, hS, rfl⟩, PySem.F.args_list_init_2 _ _, ?_⟩
  show wpAny _ _ (do let old ← Builtin.List.listItems (.ref s.heap.objs.size); Builtin.List.listUpdate (.ref s.heap.objs.size) (fun _ => #[]); letGo old.toList.reverse; Builtin.List.listExtendWith (.ref s.heap.objs.size) (.ref z) .none) _ _ _
  refine wpAny_bind ?_; unfold Builtin.List.listItems
  refine wpAny_bind (wpAny_seqItems hS rfl (wpAny_pure ?_))
  show wpAny _ _ (updateSeq s.heap.objs.size (fun _ => #[]) >>= fun _ => letGo (#[] : Array Value).toList.reverse >>= fun _ => Builtin.List.listExtendWith (.ref s.heap.objs.size) (.ref z) .none) _ _ _
  refine wpAny_bind (wpAny_updateSeq hS rfl ?_)
  have hS₂ := Heap.get?_update_self (Obj.mapSeq (fun _ => (#[] : Array Value))) hS rfl
  have up : ∀ b o, b ≠ s.heap.objs.size → s.heap.get? b = some o → ((s.heap.push { cls := .type "list", data := .seq #[] }).update s.heap.objs.size (Obj.mapSeq (fun _ => (#[] : Array Value)))).get? b = some o := fun b o hb e => (Heap.get?_update_other _ _ (Ne.symm hb)).trans (Heap.get?_push_of_some _ e)
  refine wpAny_bind (wpAny_letGo ?_)
  refine lz_ext (A := A.in1) (xs := xs) (ys := ys) hh D O ⟨lz, lTO, l1', l2'⟩ hn .none (up _ _ O.a hz) ⟨up _ _ O.b hTI, t1.at fun o e => up _ o O.d e, t2.at fun o e => up _ o O.e e, p1.at fun o e => up _ o O.f e, p2.at fun o e => up _ o O.g e, .inl ⟨up _ _ O.a hz, _, _, up _ _ O.c hTO⟩⟩ hS₂ fun h' acc c as k1 k2 k3 k4 k5 => ?_
  exact ⟨rfl, q h' acc c as (fun b o b1 b2 b3 b4 e => k1 b o (Nat.ne_of_lt (Heap.lt_size e)) b1 b2 b3 b4 (up b o (Nat.ne_of_lt (Heap.lt_size e)) e)) k2 k3 k4 k5⟩
end
/-! the pairs in the abstract heap -/
def putP : Hp → List Addr → List (V × V) → Hp
  | H, a :: as, p :: kvs => putP (upd H a (.tup [p.1, p.2])) as kvs
  | H, _, _ => H
theorem putP_off {b : Addr} : ∀ (as : List Addr) (kvs : List (V × V)) (H : Hp), b ∉ as → putP H as kvs b = H b
  | [], _, _, _ => rfl
  | _ :: _, [], _, _ => rfl
  | a :: as, p :: kvs, H, h => (putP_off as kvs (upd H a (.tup [p.1, p.2])) (fun z => h (List.mem_cons_of_mem _ z))).trans (upd_ne (fun z => h (by rw [z]; exact List.mem_cons_self)))
theorem putP_at : ∀ (as : List Addr) (kvs : List (V × V)) (H : Hp), as.length = kvs.length → as.Nodup → ∀ (j : Nat) (a : Addr) (p : V × V), as[j]? = some a → kvs[j]? = some p → putP H as kvs a = some (.tup [p.1, p.2])
  | [], _, _, _, _, j, a, p, h, _ => by simp at h
  | _ :: _, [], _, h, _, _, _, _, _, _ => by cases h
  | a :: as, p :: kvs, H, h, hn, 0, b, r, h1, h2 => by
    have hn' := List.nodup_cons.mp hn
    simp at h1 h2
    subst h1 h2
    exact (putP_off as kvs _ hn'.1).trans upd_same
  | a :: as, p :: kvs, H, h, hn, j + 1, b, r, h1, h2 => putP_at as kvs _ (Nat.succ.inj h) (List.nodup_cons.mp hn).2 j b r (by simpa using h1) (by simpa using h2)
section
variable {X : Cx}
theorem lz_laid {pins : List (Addr × Obj)} {σ : L2.St} {H : Hp} {s : Shared} {h' : Heap} {xs ys : List V} {us ws : List Value} {acc : Array Value} {c : Nat} {as : List Addr} (I : Inv X pins σ H s) (hz : xs.length ≤ sizeLine) (r1 : Vals xs us) (r2 : Vals ys ws)
    (hk : ∀ b o, s.heap.get? b = some o → h'.get? b = some o) {S : Addr} (hSz : s.heap.objs.size ≤ S) (hS : h'.get? S = some { cls := .type "list", dict := none, data := .seq acc c, slots := #[] }) (hl : as.length = min us.length ws.length) (g : LzG us.toArray ws.toArray S h' as) (hacc : acc.toList = as.map Value.ref) :
    ∃ H' : Hp, (∀ b o, H b = some o → H' b = some o) ∧ H S = none ∧ (∀ t ∈ as, H t = none) ∧ S ∉ as ∧ H' S = some (.lst (as.map V.ref)) ∧ (∀ (j : Nat) (a : Addr) (p : V × V), as[j]? = some a → (xs.zip ys)[j]? = some p → H' a = some (.tup [p.1, p.2])) ∧ as.length = (xs.zip ys).length ∧ Inv X pins σ H' { s with heap := h' } := by
  have l1 := r1.length
  have l2 := r2.length
  have lz : as.length = (xs.zip ys).length := by rw [List.length_zip]; omega
  have hSn : S ∉ as := fun z => Nat.lt_irrefl _ (g.above _ z)
  have nd : as.Nodup := List.Pairwise.imp (fun {a b} (h : a < b) => Nat.ne_of_lt h) g.rise
  have new : ∀ t ∈ as, H t = none := fun t ht => I.hok.fresh (Nat.le_trans hSz (Nat.le_of_lt (g.above t ht)))
  have newS : H S = none := I.hok.fresh hSz
  have atP := putP_at as (xs.zip ys) (upd H S (.lst (as.map V.ref))) lz nd
  have off : ∀ b, b ∉ as → b ≠ S → putP (upd H S (.lst (as.map V.ref))) as (xs.zip ys) b = H b := fun b h1 h2 => (putP_off as _ _ h1).trans (upd_ne h2)
  have low : ∀ b o, s.heap.get? b = some o → b ∉ as ∧ b ≠ S := fun b o e => ⟨fun z => absurd (Heap.lt_size e) (Nat.not_lt.mpr (Nat.le_trans hSz (Nat.le_of_lt (g.above b z)))), Nat.ne_of_lt (Nat.lt_of_lt_of_le (Heap.lt_size e) hSz)⟩
  have kp : ∀ b u, H b = some u → putP (upd H S (.lst (as.map V.ref))) as (xs.zip ys) b = some u := fun b u e => (off b (fun z => by rw [new b z] at e; cases e) (fun z => by rw [z, newS] at e; cases e)).trans e
  have eS : putP (upd H S (.lst (as.map V.ref))) as (xs.zip ys) S = some (.lst (as.map V.ref)) := (putP_off as _ _ hSn).trans upd_same
  refine ⟨_, kp, newS, new, hSn, eS, atP, lz, ?_⟩
  refine I.call' (ch := []) rfl ⟨fun b o q _ _ _ => hk b o q, fun b o q _ _ _ => ⟨o.slots, hk b o q⟩, fun b o q n _ => ?_, fun b o q _ => ⟨o, hk b o q⟩, fun b xs q => kp b _ q, fun b o u q => kp b _ q, fun b ps q => ⟨#[], by rw [kp b _ q]; simp⟩⟩ (fun b u q => ?_) I.bare fun b z => by simp at z
  · obtain ⟨z1, z2⟩ := low b o q
    exact (off b z1 z2).trans n
  · by_cases hb : b ∈ as
    · obtain ⟨j, e1⟩ := List.mem_iff_getElem?.mp hb
      have jl : j < (xs.zip ys).length := by
        have := (List.getElem?_eq_some_iff.mp e1).1
        omega
      have e2 := List.getElem?_eq_getElem jl
      rw [atP j b _ e1 e2] at q
      cases q
      obtain ⟨x, y, f1, f2, f3⟩ := g.pairs j b e1
      have e2' := List.getElem?_zip_eq_some.mp e2
      obtain ⟨u1, g1, g2⟩ := r1.get e2'.1
      obtain ⟨u2, g3, g4⟩ := r2.get e2'.2
      have c1 : us[j]? = some x := by simpa using f1
      have c2 : ws[j]? = some y := by simpa using f2
      rw [g1] at c1; cases c1
      rw [g3] at c2; cases c2
      exact ⟨by show 2 ≤ sizeLine; decide, [x, y], .cons g2 (.cons g4 .nil), ⟨_, f3, rfl, _, rfl⟩⟩
    · by_cases hb2 : b = S
      · rw [hb2] at q ⊢
        rw [eS] at q
        cases q
        refine ⟨by rw [List.length_map]; omega, acc.toList, c, by rw [hacc]; exact LiI.vals_refs as, ?_⟩
        rw [Array.toArray_toList]; exact hS
      · rw [off b hb hb2] at q
        exact (I.hok b u q).stay (fun d v _ y => hk d v y) (fun d y => kp d _ y) fun d xs y => kp d _ y
def tLz (K : PySem.W.Frag) (ta : TA) : TE := fun σ H Q => ta σ H fun vs H1 => ∃ a b xs ys, vs = [.ref a, .ref b] ∧ SqT K H1 a xs ∧ SqT K H1 b ys ∧
  ∀ (H' : Hp) (p : Addr) (ts : List Addr), (∀ b o, H1 b = some o → H' b = some o) → H1 p = none → (∀ t ∈ ts, H1 t = none) → p ∉ ts → H' p = some (.lst (ts.map V.ref)) → (∀ (j : Nat) (a : Addr) (p : V × V), ts[j]? = some a → (xs.zip ys)[j]? = some p → H' a = some (.tup [p.1, p.2])) → ts.length = (xs.zip ys).length → Q (.ref p) H'
/-- list(zip(e, e2)) of two tuples -/
theorem pe_listZip {e e2 : Expr} {ta : TA} {p p2 pos cpos : Pos} (hc : X.calm = true) (hg : Gl X "list") (hm : X.mg "list" = none) (hg2 : Gl X "zip") (hm2 : X.mg "zip" = none) (ha : PA X [e, e2] ta)
    (hs : starEach [.Call (.Name "zip" p2) [e, e2] [] cpos] X.env = (false, eval (.Call (.Name "zip" p2) [e, e2] [] cpos) X.env) :: starEach [] X.env := by rfl)
    (hs2 : starEach [e, e2] X.env = (false, eval e X.env) :: starEach [e2] X.env := by rfl) (hpl : (backTo cpos (starEach [e2] X.env)).any (·.1) = false := by rfl) :
    PE X (.Call (.Name "list" p) [.Call (.Name "zip" p2) [e, e2] [] cpos] [] pos) (tLz X.K ta) := by
  refine ⟨fun pins s σ H Q I hq => ?_⟩
  refine wpAny_Call_Name_kw (ld_blt I hg hm boot_list (PyProof.Rows.callWith_type1 ?_ hs rfl))
  rw [hs]; show wpAny _ _ (spliced ((false, eval (.Call (.Name "zip" p2) [e, e2] [] cpos) X.env) :: backTo pos (starEach [] X.env))) _ _ s
  refine Calls.spliced_cons ?_
  refine Call_ (ld_blt I hg2 hm2 PyProof.Rows.boot_zip (PyProof.Rows.callWith_type1 (thn (ha.run cpos pins s σ H _ I hq) fun us s1 ⟨vs, H1, I1, r1, q1⟩ => ?_) hs2 hpl))
  obtain ⟨a, b, xs, ys, rfl, hx, hy, q⟩ := q1
  cases r1 with
  | cons r rr =>
    cases rr with
    | cons r' rr =>
      cases rr
      cases r
      cases r'
      obtain ⟨its, rv, pa, hz⟩ := I1.tuple hx
      obtain ⟨its2, rv2, pb, _⟩ := I1.tuple hy
      have la : a < s1.heap.objs.size := let ⟨_, e, _⟩ := pa; Heap.lt_size e
      have lb : b < s1.heap.objs.size := let ⟨_, e, _⟩ := pb; Heap.lt_size e
      refine RZ.call_zipT (show s1.heap.IsTuple a its.toArray from pa) (show s1.heap.IsTuple b its2.toArray from pb) fun h' hz1 hTI hTO t1 t2 hsz hk => ?_
      refine Calls.spliced_nil ?_
      have I2 : Inv X pins σ H1 { s1 with heap := h' } := I1.kept (t' := s1.toks) hk
      refine lz_call (s := { s1 with heap := h' }) (I1.ok.hd hc) (PySem.W.ktu_apart s1.heap.objs.size a b la lb) hz1 hTI hTO t1 t2 ((show s1.heap.IsTuple a its.toArray from pa).at fun o e => hk _ o e) ((show s1.heap.IsTuple b its2.toArray from pb).at fun o e => hk _ o e) (by rw [List.size_toArray, ← rv.length]; exact hz) fun h2 acc c as k1 k2 k3 k4 k5 => ?_
      have lt5 : ∀ {d o}, s1.heap.get? d = some o → d < s1.heap.objs.size := Heap.lt_size
      obtain ⟨H', m1, m2, m3, m4, m5, m6, m7, J⟩ := lz_laid (h' := h2) I1 hz rv rv2 (fun d o e => k1 d o (Nat.ne_of_lt (Nat.lt_of_lt_of_le (lt5 e) (Nat.le_add_right _ _))) (Nat.ne_of_lt (Nat.lt_of_lt_of_le (lt5 e) (Nat.le_add_right _ _))) (Nat.ne_of_lt (lt5 e)) (Nat.ne_of_lt (Nat.lt_of_lt_of_le (lt5 e) (Nat.le_add_right _ _))) (hk d o e)) (S := h'.objs.size) (by show s1.heap.objs.size ≤ h'.objs.size; rw [hsz]; exact Nat.le_add_right _ _) k2 (by simpa using k3) k4 k5
      exact ⟨.ref _, H', J, rfl, q H' _ as m1 m2 m3 m4 m5 m6 m7⟩
end
section
variable {K : PySem.W.Frag}
def zipD (ds es : List D) : List D := List.zipWith (fun d e => .tuple [d, e]) ds es
def eLzR2 (e : En) : List D → Option (Mu × En)
  | [.tuple ds, .tuple es] => if small ds.length = true then some (.l (zipD ds es), e) else none
  | _ => none
def eLzR1 (e : En) : Option (List D) → Option (Mu × En)
  | some ds => eLzR2 e ds
  | none => none
def eLzR : Option (List R × En) → Option (Mu × En)
  | some (l, e) => eLzR1 e (rkA e l)
  | none => none
def eLz (fl : EvA) : EvM := fun env => eLzR (fl env)
theorem q_lz {fl : EvA} {env : En} : eLz fl env = eLzR (fl env) := rfl
theorem q_lz0 {l : List R} {e : En} : eLzR (some (l, e)) = eLzR1 e (rkA e l) := rfl
theorem q_lz1 {ds : List D} {e : En} : eLzR1 e (some ds) = eLzR2 e ds := rfl
theorem q_lz2 {ds es : List D} {e : En} (h : ds.length ≤ 1000000) : eLzR2 e [.tuple ds, .tuple es] = some (.l (zipD ds es), e) := if_pos (decide_eq_true h)
end
end GD

namespace GD
open PySem PySem.Spec PyProof.Rows L2
section
variable {K : PySem.W.Frag}
theorem RpAll.of_get {O : Addr → Prop} {H : Hp} : ∀ {vs : List V} {ds : List D}, vs.length = ds.length → (∀ (j : Nat) (v : V) (d : D), vs[j]? = some v → ds[j]? = some d → Rp K O H v d) → RpAll K O H vs ds
  | [], [], _, _ => .nil
  | [], _ :: _, h, _ => by cases h
  | _ :: _, [], h, _ => by cases h
  | v :: vs, d :: ds, h, k => .cons (k 0 v d rfl rfl) (RpAll.of_get (Nat.succ.inj h) fun j v d h1 h2 => k (j + 1) v d (by simpa using h1) (by simpa using h2))
theorem im_lz {tl : TA} {fl : EvA} (hl : IA K tl fl) : IM K (tLz K tl) (eLz fl) := by
  intro F T env σ H m env' S e Q q
  simp only [eLz] at e
  cases a1 : fl env with
  | none => rw [a1] at e; cases e
  | some p =>
    obtain ⟨l, e1⟩ := p
    rw [a1] at e
    simp only [eLzR] at e
    cases a2 : rkA e1 l with
    | none => rw [a2] at e; cases e
    | some ds =>
      rw [a2] at e
      refine hl F T env σ H l _ S a1 _ fun vs H1 S1 s1 v1 => ?_
      have la := rkA_ok S1 v1 a2
      match ds, e, la with
      | [.tuple ds, .tuple es], e, .cons rd (.cons re .nil) =>
        simp only [eLzR1, eLzR2] at e
        split at e
        · rename_i hs
          cases e
          obtain ⟨a, xs, rfl, hx, rx, _⟩ := Rp.tupI rd
          obtain ⟨b, ys, rfl, hy, ry, _⟩ := Rp.tupI re
          refine ⟨a, b, xs, ys, rfl, hx, hy, fun H' p ts k1 np nt pt hp kt lt => ?_⟩
          have x : Ext (fun _ => False) H1 H' := ⟨fun a o e _ => k1 a o e, fun a h => by
            cases z : H1 a with
            | none => exact absurd z h
            | some o => rw [k1 a o z]; simp⟩
          have n0 : H p = none := by
            cases h : H p with
            | none => rfl
            | some o => exact absurd np (s1.ext.live p (by rw [h]; simp))
          refine q p H' n0 (S1.lay1 np x (by rw [hp]; simp)) (s1.trans (Stp.lay x)) ⟨_, hp, ?_⟩
          have rx2 := owp np x rx
          have ry2 := owp np x ry
          refine RpAll.of_get (by rw [List.length_map, lt]; simp [zipD, rx.length, ry.length]) fun j v d h1 h2 => ?_
          rw [List.getElem?_map] at h1
          cases z : ts[j]? with
          | none => rw [z] at h1; cases h1
          | some t =>
            rw [z] at h1; cases h1
            have jl : j < (xs.zip ys).length := by
              have := (List.getElem?_eq_some_iff.mp z).1
              omega
            have e2 := List.getElem?_eq_getElem jl
            have ht := kt j t _ z e2
            have e2' := List.getElem?_zip_eq_some.mp e2
            obtain ⟨d1, g1, g2⟩ := rx2.get' e2'.1
            obtain ⟨d2, g3, g4⟩ := ry2.get' e2'.2
            have hd : d = .tuple [d1, d2] := by
              unfold zipD at h2
              rw [List.getElem?_zipWith, g1, g3] at h2
              exact (Option.some.inj h2).symm
            subst hd
            have tn := nt t (List.mem_of_getElem? z)
            refine .tup (.inl ⟨.inl ht, fun hO => ?_⟩) (.cons g2 (.cons g4 .nil))
            rcases hO with h | (h | h) | h
            · exact S1.fresh tn (.inl h)
            · exact S1.fresh tn (.inr (.inl h))
            · subst h; exact pt (List.mem_of_getElem? z)
            · exact S1.fresh tn (.inr (.inr h))
        · cases e
end
end GD

/-! a table of the top, asked by get; displays of dicts; repr of data with dicts; x == (); upper -/
namespace GD
open PySem PySem.Spec PyProof.Rows L2 PyProof.V PySem.SeqAt
/-! ### a table with text keys and whole numbers -/
def look : List (Str × Int) → Str → Option Int
  | [], _ => none
  | (k, i) :: r, x => if k = x then some i else look r x
def tabIs : List DictEntry → List (Str × Int) → Prop
  | [], [] => True
  | e :: r, (k, i) :: q => (∃ t, e.key = .str k t) ∧ (∃ t, e.val = .int i t) ∧ tabIs r q
  | _, _ => False
structure KTab (K : PySem.W.Frag) (w : World) (d : Addr) (tb : List (Str × Int)) : Prop where
  ex : ∃ es n, KDict K w d es n ∧ tabIs es.toList tb
theorem tab_find : ∀ {es : List DictEntry} {tb : List (Str × Int)} (x : Str), tabIs es tb → (match look tb x with
    | some i => ∃ e t, es.find? (·.key.isStr x) = some e ∧ e.val = .int i t
    | none => es.find? (·.key.isStr x) = none) ∧ es.any (·.refKey) = false
  | [], [], x, _ => ⟨rfl, rfl⟩
  | e :: r, (k, i) :: q, x, ⟨⟨t, hk⟩, ⟨u, hv⟩, hr⟩ => by
    obtain ⟨h1, h2⟩ := tab_find (es := r) x hr
    refine ⟨?_, by rw [List.any_cons, h2]; simp [DictEntry.refKey, hk]⟩
    have hs : e.key.isStr x = decide (k = x) := by rw [hk]; exact (PySem.W.isStr_of x _).trans (show (k == x) = decide (k = x) from Bool.eq_iff_iff.mpr (by simp))
    unfold look
    by_cases c : k = x
    · rw [if_pos c]
      exact ⟨e, u, by rw [List.find?_cons, hs, decide_eq_true c], hv⟩
    · rw [if_neg c]
      have c2 : (e.key.isStr x) = false := by rw [hs, decide_eq_false c]
      cases z : look q x with
      | none =>
        rw [z] at h1
        show (e :: r).find? _ = none
        rw [List.find?_cons, c2]; exact h1
      | some j =>
        rw [z] at h1
        obtain ⟨e', t', h3, h4⟩ := h1
        exact ⟨e', t', by rw [List.find?_cons, c2]; exact h3, h4⟩
  | [], _ :: _, _, h => h.elim
  | _ :: _, [], _, h => h.elim
theorem KTab.at {K : PySem.W.Frag} {w : World} {d : Addr} {tb : List (Str × Int)} (T : KTab K w d tb) (x : Str) : ∃ es n, KDict K w d es n ∧ ∃ r, PySem.W.nsIn K d x = some r ∧ (match look tb x with
    | some i => ∃ t, r = some (.int i t)
    | none => r = none) := by
  obtain ⟨es, n, D, ht⟩ := T.ex
  obtain ⟨h1, h2⟩ := tab_find x ht
  refine ⟨es, n, D, ?_⟩
  unfold PySem.W.nsIn
  rw [D.at_]
  dsimp only
  cases z : look tb x with
  | none =>
    rw [z] at h1
    refine ⟨none, ?_, rfl⟩
    have h1' : es.toList.find? (·.key.isStr x) = none := h1
    rw [h1']; dsimp only; rw [h2]; rfl
  | some i =>
    rw [z] at h1
    obtain ⟨e, t, h3, h4⟩ := h1
    refine ⟨some e.val, ?_, t, by rw [h4]⟩
    rw [h3]
def rKGet (tb : List (Str × Int)) : R2 := fun y z H Q => ∃ k j, y = .str k ∧ z = .int j ∧ Q (.int ((look tb k).getD j)) H
theorem pe_kget {X : Cx} {x : Str} {d : Addr} {tb : List (Str × Int)} {e f : Expr} {ty tx : TE} {p apos cpos : Pos} (hg : Gl X x) (hm : X.mg x = some (.ref d)) (T : KTab X.K X.w d tb) (he : PE X e ty) (hf : PE X f tx) (m : M2 X (.Name x p) "get" apos e f cpos)
    (hdb : (x == ("__debug__" : Str)) = false := by decide) : PE X (.Call (.Attribute (.Name x p) "get" apos) [e, f] [] cpos) (tOp (rKGet tb) ty tx) := by
  refine ⟨fun pins s σ H Q I h => ?_⟩
  obtain ⟨es, n, D, _⟩ := T.at ("" : Str)
  have hD := PySem.W.mapOf_K (prog := X.prog) (w := X.w) I.kIn D.at_ D.lit
  refine wpAny_Call_method m.base m.few m.line PySem.F.plainAttrs_dict PySem.F.slot_dict_get PySem.F.type_dict_get (ld_glob I hg hm ?_ hdb)
  refine ⟨hD.typeIs, hD.noDict, ?_⟩
  rw [m.trees]
  refine Calls.callWith_builtin rfl (Calls.evalArgs_plain (Calls.spliced_cons (thn (he.run pins s σ H _ I h) fun u s2 ⟨y, H2, I2, ry, q2⟩ =>
    Calls.spliced_cons (thn (hf.run pins s2 σ H2 _ I2 q2) fun fv s3 ⟨z, H3, I3, rz, k, j, ey, ez, q3⟩ => Calls.spliced_nil ?_))))
  subst ey ez
  obtain ⟨t, rfl⟩ := ry
  obtain ⟨es, n, D, r, hr, hz⟩ := T.at k
  have hD2 := PySem.W.mapOf_K (prog := X.prog) (w := X.w) I3.kIn D.at_ D.lit
  refine call_meetsIn PySem.F.slot_dict_get hD2.typeIs PySem.F.entry_dict_get (PySem.F.args_dict_get_3 _ _ _) (meets_dict_get_default (PySem.strKind X.prog X.w) d (PySem.strKind_is X.prog X.w k t) D.low fv) ⟨_, hD2, ?_⟩
  rw [PySem.W.find_K D.at_ hr]
  cases c : look tb k with
  | none =>
    rw [c] at hz q3
    rw [hz]
    exact ⟨.int j, H3, I3.tok _, rz, q3⟩
  | some i =>
    rw [c] at hz q3
    obtain ⟨t2, rfl⟩ := hz
    exact ⟨.int i, H3, I3.tok _, ⟨t2, rfl⟩, q3⟩
section
variable {K : PySem.W.Frag}
def dKGet (tb : List (Str × Int)) : D → D → Option D
  | .str k, .int j => some (.int ((look tb k).getD j))
  | _, _ => none
theorem od_kget {tb : List (Str × Int)} : OpD K (rKGet tb) (dKGet tb) := by
  intro O H x y d e z hO l1 l2 hz Q q
  match d, e, hz, l1, l2 with
  | .str k, .int j, hz, l1, l2 =>
    cases hz
    cases Rp.scS l1
    cases Rp.sc l2
    exact ⟨k, j, rfl, rfl, q _ H Ext.refl (.int _)⟩
theorem c_kget {tb : List (Str × Int)} {k : Str} {j : Int} : dKGet tb (.str k) (.int j) = some (.int ((look tb k).getD j)) := rfl
end
/-! ### displays -/
section
variable {K : PySem.W.Frag}
def eD0 : EvM := fun env => some (.m [], env)
theorem im_d0 : IM K tDNewK eD0 := by
  intro F T env σ H m env' S e Q q
  cases e
  intro p np
  have x : Ext (fun _ => False) H (upd H p (.dK [])) := Ext.new np
  exact q p _ np (S.lay1 np x (by rw [upd_same]; simp)) (Stp.lay x) ⟨[], upd_same, rfl, .nil⟩
def eD1 (k : Str) (i : Int) : EvM := fun env => some (.m [(Sum.inr k, .int i)], env)
theorem im_d1 {k : Str} {i : Int} : IM K (tDisp [(tC (.str k), tC (.int i))]) (eD1 k i) := by
  intro F T env σ H m env' S e Q q
  cases e
  intro p np
  refine ⟨upd_same, [(Sum.inr k, V.int i)], rfl, by simp, ?_⟩
  have x : Ext (fun _ => False) H (upd (upd H p (.dK [])) p (.dK (mergeK [] [(Sum.inr k, V.int i)]))) := ⟨fun a o e _ => by
      rw [upd_ne (ne_of_none e np), upd_ne (ne_of_none e np)]; exact e, fun a e => by
      by_cases h : a = p
      · subst h; rw [upd_same]; simp
      · rw [upd_ne h, upd_ne h]; exact e⟩
  exact q p _ np (S.lay1 np x (by rw [upd_same]; simp)) (Stp.lay x) ⟨_, upd_same, rfl, .cons (.int i) .nil⟩
theorem q_d0 {env : En} : eD0 env = some (.m [], env) := rfl
theorem q_d1 {k : Str} {i : Int} {env : En} : eD1 k i env = some (.m [(Sum.inr k, .int i)], env) := rfl
theorem c_d0 : Mu.toD (.m []) = .dict [] := rfl
theorem c_d1 {k : Str} {i : Int} : Mu.toD (.m [(Sum.inr k, .int i)]) = .dict [(.str k, .int i)] := rfl
end
/-! ### repr of data with dicts, no lists in it -/
def atom : D → Bool
  | .none => true
  | .bool _ => true
  | .int _ => true
  | .str _ => true
  | _ => false
def atomKv : List (D × D) → Bool
  | [] => true
  | p :: r => atom p.2 && atomKv r
mutual
def noL : D → Bool
  | .none => true
  | .bool _ => true
  | .int _ => true
  | .str _ => true
  | .list _ => false
  | .tuple ds => noLs ds
  | .dict kvs => !isExc (.dict kvs) && atomKv kvs
def noLs : List D → Bool
  | [] => true
  | d :: ds => noL d && noLs ds
end
section
variable {X : Cx} {pins : List (Addr × Obj)} {σ : L2.St} {H : Hp} {s : Shared} {O : Addr → Prop}
theorem reads_atom : ∀ {d : D} {v : V} {u : Value}, Rp X.K O H v d → RelV v u → atom d = true → Reads s.heap u d []
  | .none, _, _, h, r, _ => by cases h; cases r; exact .none
  | .bool b, _, _, h, r, _ => by cases h; cases r; exact .bool b
  | .int i, _, _, h, r, _ => by cases h; obtain ⟨t, rfl⟩ := r; exact .int i t
  | .str x, _, _, h, r, _ => by cases h; obtain ⟨t, rfl⟩ := r; exact .str x t
theorem pairs_atom : ∀ {kvs : List (L2.Key × V)} {vs : List (L2.Key × Value)} {ds : List D}, KV kvs vs → RpAll X.K O H (kvs.map (·.2)) ds → atomKv ((kvs.map fun p => keyD p.1).zip ds) = true → PairsRead s.heap keyD vs ((kvs.map fun p => keyD p.1).zip ds) []
  | [], _, _, .nil, .nil, _ => .nil
  | p :: kvs, (k, v) :: vs, d :: ds, .cons h t, .cons r rs, ha => by
    simp only [List.map_cons, List.zip_cons_cons, atomKv, Bool.and_eq_true] at ha
    obtain ⟨h1, h2⟩ := h
    have h1' : p.1 = k := h1
    subst h1'
    have := PairsRead.cons (enc := keyD) (k := p.1) (reads_atom (s := s) r h2 ha.1) (pairs_atom t rs ha.2)
    exact this
theorem key_reads (P : Program) (w : World) (h : Heap) (k : L2.Key) (key : Value) (e : (mixKind P w).is k key = true) : Reads h key (keyD k) [] := by
  rcases keyIs_shape (show keyIs k key = true from e) with ⟨i, t, rfl, rfl⟩ | ⟨x, t, rfl, rfl⟩
  · exact .int i t
  · exact .str x t
theorem reads_dic (I : Inv X pins σ H s) {a : Addr} {kvs : List (L2.Key × V)} {ds : List D} (rd : Rd H a (.dK kvs)) (r : RpAll X.K O H (kvs.map (·.2)) ds) (ha : atomKv ((kvs.map fun p => keyD p.1).zip ds) = true) :
    ∃ as, Reads s.heap (.ref a) (.dict ((kvs.map fun p => keyD p.1).zip ds)) as ∧ sysModules ∉ as := by
  obtain ⟨z, hd, vs, kv, dd⟩ := dk_rd I.hok rd
  refine ⟨_, reads_dictOf (enc := keyD) (key_reads X.prog X.w s.heap) dd (pairs_atom kv r ha), fun h => ?_⟩
  rw [List.mem_singleton] at h
  rw [← h] at hd
  simp at hd
mutual
theorem Rp.readsN (I : Inv X pins σ H s) : ∀ (d : D) (v : V) (u : Value), Rp X.K O H v d → RelV v u → noL d = true → ∃ as, Reads s.heap u d as ∧ sysModules ∉ as
  | .none, _, _, h, r, _ => by cases h; cases r; exact ⟨_, .none, by simp⟩
  | .bool b, _, _, h, r, _ => by cases h; cases r; exact ⟨_, .bool b, by simp⟩
  | .int i, _, _, h, r, _ => by cases h; obtain ⟨t, rfl⟩ := r; exact ⟨_, .int i t, by simp⟩
  | .str x, _, _, h, r, _ => by cases h; obtain ⟨t, rfl⟩ := r; exact ⟨_, .str x t, by simp⟩
  | .list _, _, _, _, _, n => by rw [noL] at n; cases n
  | .tuple ds, _, _, h, r, n => by
    obtain ⟨a, xs, rfl, hs, ha, _⟩ := Rp.tupI h
    cases r
    rw [noL] at n
    obtain ⟨its, rv, ⟨o, ho, hc, m, hd⟩, _⟩ := I.tuple hs
    obtain ⟨as, hr, hn⟩ := RpAll.readsN I ds _ its ha rv n
    exact ⟨_, .tuple ho hc hd hr, hn⟩
  | .dict kvs, _, _, h, r, n => by
    rw [noL, Bool.and_eq_true] at n
    cases h with
    | dic rd _ ra =>
      cases r
      exact reads_dic I rd ra n.2
    | exc _ _ _ _ _ _ => exact (exc_no ((Bool.not_eq_true' _).mp n.1)).elim
theorem RpAll.readsN (I : Inv X pins σ H s) : ∀ (ds : List D) (vs : List V) (us : List Value), RpAll X.K O H vs ds → Vals vs us → noLs ds = true → ∃ as, ReadsAll s.heap us ds as ∧ sysModules ∉ as
  | [], _, _, h, r, _ => by cases h; cases r; exact ⟨_, .nil, by simp⟩
  | d :: ds, _, _, h, r, n => by
    rw [noLs, Bool.and_eq_true] at n
    cases h with
    | cons h1 h2 =>
      cases r with
      | cons r1 r2 =>
        obtain ⟨as, q1, n1⟩ := Rp.readsN I d _ _ h1 r1 n.1
        obtain ⟨bs, q2, n2⟩ := RpAll.readsN I ds _ _ h2 r2 n.2
        exact ⟨_, .cons q1 q2, fun h => (List.mem_append.mp h).elim n1 n2⟩
end
def okShowN (d : D) : Bool := noL d && decide (d.depth ≤ 60) && d.showable && d.leavesShort 200 && decide (d.bulk ≤ 60000)
def rReprN (K : PySem.W.Frag) : List V → Hp → VK → Prop := fun xs H Q => ∃ x d O, xs = [x] ∧ Lv K O H x d ∧ okShowN d = true ∧ Q (.str d.shown) H
theorem call_reprN (hg : X.A.guards = some []) (hu : X.A.units + 64 < cLine) : CallR X (.builtin "repr") (rReprN X.K) := by
  intro pins s σ H xs us Q I rr h
  obtain ⟨x, d, O, rfl, hd, ok, q⟩ := h
  cases rr with
  | @cons _ u _ _ rx rt =>
    cases rt
    simp only [okShowN, Bool.and_eq_true, decide_eq_true_eq] at ok
    obtain ⟨⟨⟨⟨o1, o2⟩, o3⟩, o4⟩, o5⟩ := ok
    have hz : d.shown.length ≤ sizeLine := by
      have := PyData.shown_le_bulk 200 (by decide) d o4
      have h2 : (200 + 2) * d.bulk ≤ 202 * 60000 := Nat.mul_le_mul_left _ o5
      have h3 : (12120200 : Nat) ≤ sizeLine := by decide
      omega
    match d, hd, o1, o2, o3, hz, q with
    | .none, hd, _, _, _, _, q => cases Rp.scN (show Rp X.K O H x .none from hd); cases rx; exact PySem.P.repr_of_none ⟨.str _, H, I.tok _, ⟨_, rfl⟩, q⟩
    | .bool b, hd, _, _, _, _, q => cases Rp.scB (show Rp X.K O H x (.bool b) from hd); cases rx; exact PySem.P.repr_of_bool ⟨.str _, H, I.tok _, ⟨_, rfl⟩, by cases b <;> exact q⟩
    | .int i, hd, _, _, o3, _, q => cases Rp.sc (show Rp X.K O H x (.int i) from hd); obtain ⟨t, rfl⟩ := rx; exact PySem.P.repr_of_int (by simpa [PyData.showable] using o3) ⟨.str _, H, I.tok _, ⟨_, rfl⟩, q⟩
    | .str y, hd, _, _, _, hz, q => cases Rp.scS (show Rp X.K O H x (.str y) from hd); obtain ⟨t, rfl⟩ := rx; exact PySem.P.repr_of_str ⟨.str _, H, I.tok _, ⟨_, rfl⟩, q⟩ hz
    | .list ds, _, o1, _, _, _, _ => rw [noL] at o1; cases o1
    | .tuple ds, hd, o1, o2, o3, hz, q =>
      obtain ⟨as, r, hn⟩ := Rp.readsN I (.tuple ds) x u hd rx o1
      obtain ⟨a, xs, rfl, _, _, _⟩ := Rp.tupI (show Rp X.K O H x (.tuple ds) from hd)
      cases rx
      exact repr_of_reads' r o3 (fun _ => hn) hg (by omega) (fun _ _ e => e) (fun h' t tk hk => ⟨.str _, H, I.kept (t' := tk) hk, ⟨t, rfl⟩, q⟩) hz
    | .dict kvs, hd, o1, o2, o3, hz, q =>
      rw [noL, Bool.and_eq_true] at o1
      rcases hd with ⟨a, es, ds, rfl, rd, ra, rfl⟩ | ⟨_, _, _, _, _, _, _, _, _, _, _, _, e⟩
      rotate_left
      · have o := o1.1
        rw [e] at o
        exact (exc_no ((Bool.not_eq_true' _).mp o)).elim
      cases rx
      obtain ⟨as, r, hn⟩ := reads_dic I rd ra o1.2
      exact repr_of_reads' r o3 (fun _ => hn) hg (by omega) (fun _ _ e => e) (fun h' t tk hk => ⟨.str _, H, I.kept (t' := tk) hk, ⟨t, rfl⟩, q⟩) hz
def rRepr2 (K : PySem.W.Frag) : List V → Hp → VK → Prop := fun xs H Q => rRepr K xs H Q ∨ rReprN K xs H Q
theorem call_repr2 (hg : X.A.guards = some []) (hu : X.A.units + 64 < cLine) : CallR X (.builtin "repr") (rRepr2 X.K) := CallR.or (call_repr hg hu) (call_reprN hg hu)
end
section
variable {K : PySem.W.Frag}
def okShow2 (d : D) : Bool := okShow d || okShowN d
def cRepr2 : List D → Option D
  | [d] => if okShow2 d = true then some (.str d.shown) else none
  | _ => none
theorem cd_repr2 : CaD K (rRepr2 K) cRepr2 := by
  intro O H xs ds z hO l hz Q q
  match ds, hz, l with
  | [d], hz, l =>
    simp only [cRepr2] at hz
    split at hz
    · rename_i hs
      cases hz
      obtain ⟨v, rfl, h⟩ := LvAll.one l
      by_cases h1 : okShow d = true
      · have hd : d.hasDict = false := PyData.hasDict_of_canLay d (by
          simp only [okShow, Bool.and_eq_true] at h1
          exact h1.1.1.1.1)
        exact .inl ⟨v, d, rfl, h.dp hd, h1, q _ H Ext.refl (.str _)⟩
      · have h2 : okShowN d = true := by
          simp only [okShow2, Bool.or_eq_true] at hs
          exact hs.resolve_left h1
        exact .inr ⟨v, d, O, rfl, h, h2, q _ H Ext.refl (.str _)⟩
    · cases hz
theorem c_repr2 {d : D} (h : okShow2 d = true) : cRepr2 [d] = some (.str d.shown) := if_pos h
theorem okShow2_of {d : D} (h : okShow d = true) : okShow2 d = true := by unfold okShow2; rw [h]; rfl
theorem okShow2_ofN {d : D} (h : okShowN d = true) : okShow2 d = true := by unfold okShow2; rw [h]; simp
end
/-! ### x == () -/
section
variable {X : Cx}
def rEq0 (K : PySem.W.Frag) : R2 := fun x y H Q => ∃ a b xs, x = .ref a ∧ y = .ref b ∧ SqT K H a xs ∧ SqT K H b [] ∧ Q (.bl xs.isEmpty) H
theorem op_eq0 (hu : X.A.units + 64 < cLine) : OpR X (compareOp .Eq) (rEq0 X.K) := by
  intro pins s σ H x y v u Q I rx ry h
  obtain ⟨a, b, xs, rfl, rfl, h1, h2, q⟩ := h
  cases rx
  cases ry
  obtain ⟨its, rv, pa, _⟩ := I.tuple h1
  obtain ⟨its2, rv2, pb, _⟩ := I.tuple h2
  cases rv2
  refine eq_tupleAt (e := fun _ => true) (show s.heap.IsTuple a its.toArray from pa) (show s.heap.IsTuple b ([] : List Value).toArray from pb) (by omega) (fun j h1 h2 => absurd h2 (by simp)) ?_
  have e : ((List.range (min its.toArray.size ([] : List Value).toArray.size)).all (fun _ => true) && its.toArray.size == ([] : List Value).toArray.size) = xs.isEmpty := by
    have := rv.length
    cases xs with
    | nil => cases rv; rfl
    | cons x xs => cases its with
      | nil => cases rv
      | cons => simp
  rw [e]
  exact ⟨.bl xs.isEmpty, H, I, rfl, q⟩
def rEqA0 (K : PySem.W.Frag) : R2 := fun x y H Q => rEqA K x y H Q ∨ rEq0 K x y H Q
theorem op_eqA0 (hu : X.A.units + 64 < cLine) : OpR X (compareOp .Eq) (rEqA0 X.K) := OpR.or (op_eqA hu) (op_eq0 hu)
end
section
variable {K : PySem.W.Frag}
def dEq0 : D → D → Option D
  | .tuple ds, .tuple [] => some (.bool ds.isEmpty)
  | d, e => dEq d e
theorem od_eq0 : OpD K (rEqA0 K) dEq0 := by
  intro O H x y d e z hO l1 l2 hz Q q
  unfold dEq0 at hz
  split at hz
  · rename_i ds
    cases hz
    obtain ⟨a, xs, rfl, h1, r1, _⟩ := Rp.tupI (show Rp K O H x (.tuple ds) from l1)
    obtain ⟨b, ys, rfl, h2, r2, _⟩ := Rp.tupI (show Rp K O H y (.tuple []) from l2)
    cases r2
    have e : xs.isEmpty = ds.isEmpty := by cases r1 <;> rfl
    refine .inr ⟨a, b, xs, rfl, rfl, h1, h2, ?_⟩
    rw [e]
    exact q _ H Ext.refl (.bl _)
  · exact .inl (od_eq O H x y d e z hO l1 l2 hz Q q)
theorem c_eq0 {ds : List D} : dEq0 (.tuple ds) (.tuple []) = some (.bool ds.isEmpty) := rfl
/-! ### upper -/
def mUpper : D → List D → Option D
  | .str a, [] => if a.length ≤ 1000 then some (.str (Txt.upper a)) else none
  | _, _ => none
theorem bm_upper : BmD K (fun x xs H Q => ∃ a, x = .str a ∧ xs = [] ∧ a.length ≤ 5592405 ∧ Q (.str (Txt.upper a)) H) mUpper := by
  intro O H x d xs ds z hO l1 l2 hz Q q
  match d, ds, hz, l1, l2 with
  | .str a, [], hz, l1, l2 =>
    simp only [mUpper] at hz
    split at hz
    · rename_i h
      cases hz
      cases Rp.scS l1
      cases xs with
      | nil => exact ⟨a, rfl, rfl, by omega, q _ H Ext.refl (.str _)⟩
      | cons => exact l2.elim
    · cases hz
theorem c_upper {a : Str} (h : a.length ≤ 1000) : mUpper (.str a) [] = some (.str (Txt.upper a)) := if_pos h
end
end GD

/-! a keyword-only parameter that is left out; a tuple times a number -/
namespace GD
open PySem PySem.Spec PyProof.Rows L2
/-- the def at f has one keyword-only default, u by the name nm -/
structure KwD (K : PySem.W.Frag) (x qual : Str) (st : Stmt) (fd : FuncData) (nm : Str) (u : Value) : Prop where
  ex : ∃ (D : Addr) (doc pm : Value) (an : Option Addr) (cdv ct : Value), fd = PySem.W.fnOf x qual (defArgs st) (defBody st) (defScope st) .none (.ref D) doc pm an cdv ct ∧ PySem.W.nsIn K D nm = some (some u)
theorem KwD.binds {K : PySem.W.Frag} {x qual : Str} {st : Stmt} {fd : FuncData} {nm : Str} {u : Value} {ps : List Str} (F : KwD K x qual st fd nm u) (n : Nat) (hn : n + 1 = ps.length)
    (h : ∀ (D : Addr) (doc pm : Value) (an : Option Addr) (cdv ct : Value) (us : List Value) (v : Value), us.length = n → KwChain D [(nm, v)] (bindArgs (PySem.W.fnOf x qual (defArgs st) (defBody st) (defScope st) .none (.ref D) doc pm an cdv ct) ⟨us, []⟩) (ps.zip (us ++ [v]))) : Binds K fd ps [u] := by
  obtain ⟨D, doc, pm, an, cdv, ct, rfl, hu⟩ := F.ex
  intro s us X hl
  refine BindsTo.of_looks fun M => KwChain.looks X (fun q hq => ?_) (h D doc pm an cdv ct us u (by rw [List.length_append, List.length_singleton] at hl; omega))
  rw [List.mem_singleton.mp hq]; exact hu
def selAD {α : Type} (ds : List α) (a b : Nat) (rev : Bool) (us ws : List α) : List α := if (decide (us.length = a) && decide (ws.length = b)) = true then us ++ (ordA rev ws ++ ds) else []
theorem KwD.kb {K : PySem.W.Frag} {x qual : Str} {st : Stmt} {fd : FuncData} {nm : Str} {u : Value} {dv : V} {ps ks : List Str} {a b : Nat} {rev : Bool} (F : KwD K x qual st fd nm u) (hu : RelV dv u) (hp : ps.length = a + b + 1)
    (h : ∀ (D : Addr) (doc pm : Value) (an : Option Addr) (cdv ct : Value) (us ws : List Value) (v : Value), us.length = a → ws.length = b → KwChain D [(nm, v)] (bindArgs (PySem.W.fnOf x qual (defArgs st) (defBody st) (defScope st) .none (.ref D) doc pm an cdv ct) ⟨us, ks.zip ws⟩) (ps.zip (us ++ (ordA rev ws ++ [v])))) :
    KBinds K fd ps ks (selAD [u] a b rev) (selAD [dv] a b rev) := by
  obtain ⟨D, doc, pm, an, cdv, ct, rfl, hq⟩ := F.ex
  refine ⟨fun s us ws X hl => ?_, fun r q => ?_⟩
  · unfold selAD at hl ⊢
    by_cases hc : (decide (us.length = a) && decide (ws.length = b)) = true
    · rw [if_pos hc]
      rw [Bool.and_eq_true] at hc
      refine BindsTo.of_looks fun M => KwChain.looks X (fun q hq2 => ?_) (h D doc pm an cdv ct us ws u (of_decide_eq_true hc.1) (of_decide_eq_true hc.2))
      rw [List.mem_singleton.mp hq2]; exact hq
    · rw [if_neg hc] at hl
      simp only [List.length_nil] at hl
      omega
  · unfold selAD
    rw [r.length, q.length]
    split
    · refine Vals.append r (Vals.append ?_ (.cons hu .nil))
      unfold ordA
      cases rev with
      | true => exact vals_rev q
      | false => exact q
    · exact .nil
theorem selRD_ok {a b : Nat} {rev : Bool} {K : PySem.W.Frag} {F : Frm} {T : Addr → Prop} {H : Hp} {env : En} {σ : L2.St} {dv : V} {dd : D} {vs us : List V} {l w : List R} (hd : ∀ O H, Rp K O H dv dd) (h : RvAll K F T H env σ vs l) (q : RvAll K F T H env σ us w) : RvAll K F T H env σ (selAD [dv] a b rev vs us) (selAD [R.val dd] a b rev l w) := by
  unfold selAD
  rw [h.len, q.len]
  split
  · refine appR_ok h (appR_ok (vs := ordA rev us) (us := [dv]) (l := ordA rev w) (w := [R.val dd]) ?_ ⟨hd _ _, trivial⟩)
    unfold ordA
    cases rev with
    | true => exact q.rev
    | false => exact q
  · trivial
theorem lenSD {a b c : Nat} {rev : Bool} {fl fk : EvA} {dd : D} (h : lenOk a fl) (h' : lenOk b fk) (e : a + b + 1 = c) : ∀ env l e1 w e2, fl env = some (l, e1) → fk e1 = some (w, e2) → (selAD [R.val dd] a b rev l w).length = c := fun env l e1 w e2 p q => by
  have h1 := h _ _ _ p
  have h2 := h' _ _ _ q
  unfold selAD
  rw [if_pos (by rw [decide_eq_true h1, decide_eq_true h2]; rfl), List.length_append, List.length_append]
  unfold ordA
  cases rev
  · rw [if_neg (by simp), h1, h2, List.length_singleton, ← Nat.add_assoc, e]
  · rw [if_pos rfl, List.length_reverse, h1, h2, List.length_singleton, ← Nat.add_assoc, e]
section
variable {α : Type} {x y z d : α}
theorem q_sd01 : selAD [d] 0 1 false [] [x] = [x, d] := by unfold selAD ordA; simp
theorem q_sd02 : selAD [d] 0 2 false [] [x, y] = [x, y, d] := by unfold selAD ordA; simp
theorem q_sd02r : selAD [d] 0 2 true [] [x, y] = [y, x, d] := by unfold selAD ordA; simp
end
theorem rp_non {K : PySem.W.Frag} : ∀ (O : Addr → Prop) (H : Hp), RpAll K O H [V.non] [PyData.none] := fun _ _ => .cons .non .nil
theorem rp_int {K : PySem.W.Frag} {i : Int} : ∀ (O : Addr → Prop) (H : Hp), RpAll K O H [V.int i] [PyData.int i] := fun _ _ => .cons (.int i) .nil
theorem lenD {a c : Nat} {fl : EvA} {dd : D} (h : lenOk a fl) (e : a + 1 = c) : ∀ env l env', fl env = some (l, env') → (l ++ [dd].map R.val).length = c := fun env l env' p => by
  have h1 := h _ _ _ p
  rw [List.length_append, h1]; exact e
section
variable {M : FnS} {dd : List D} {fl : EvA} {env e : En} {l : List R}
def callDR (M : FnS) (dd : List D) : Option (List R × En) → Option (Sum R Mu × En)
  | some (l, e) => cR M (some (l ++ dd.map R.val, e))
  | none => none
theorem q_callD : xCallD M dd fl env = callDR M dd (fl env) := by
  unfold xCallD callDR
  cases fl env with
  | none => rfl
  | some p =>
    obtain ⟨l, e⟩ := p
    have := q_call (M := M) (fl := fun _ => some (l ++ dd.map R.val, e)) (env := env)
    exact this
theorem q_callD1 : callDR M [d] (some (l, e)) = cR M (some (l ++ [R.val d], e)) := rfl
end
/-! upper; a tuple times a number -/
section
variable {K : PySem.W.Frag}
def dUpper : D → Option D
  | .str a => if a.length ≤ 1000 then some (.str (Txt.upper a)) else none
  | _ => none
theorem ie_upper {te : TE} {fe : EvE} (he : IE K te fe) : IE K (tM0 (fun x xs H Q => ∃ a, x = .str a ∧ xs = [] ∧ a.length ≤ 5592405 ∧ Q (.str (Txt.upper a)) H) te) (eUn dUpper fe) := by
  intro F T env σ H r env' S e Q q
  simp only [eUn, Option.bind_eq_some_iff, Option.map_eq_some_iff] at e
  obtain ⟨⟨d, e1⟩, h1, z, h2, h3⟩ := e
  cases h3
  refine i1 he S h1 fun x H' S' st l1 => ?_
  match d, h2, l1 with
  | .str a, h2, l1 =>
    simp only [dUpper] at h2
    split at h2
    · rename_i hl
      cases h2
      cases Rp.scS l1
      exact ⟨⟨a, rfl⟩, a, rfl, rfl, by omega, q _ H' S' st (.str _)⟩
    · cases h2
theorem c_upper1 {a : Str} (h : a.length ≤ 1000) : dUpper (.str a) = some (.str (Txt.upper a)) := if_pos h
def dMulT : D → D → Option D
  | .tuple ds, .int k => if decide (ds ≠ [] ∧ 2 ≤ k ∧ k ≤ 1000 ∧ ds.length ≤ 1000) = true then some (.tuple (repD k.toNat ds)) else none
  | _, _ => none
theorem od_mulT : OpD K (rRepT K) dMulT := by
  intro O H x y d e z hO l1 l2 hz Q q
  match d, e, hz, l1, l2 with
  | .tuple ds, .int k, hz, l1, l2 =>
    simp only [dMulT] at hz
    split at hz
    · rename_i h
      cases hz
      have h := of_decide_eq_true h
      obtain ⟨a, xs, rfl, s1, r1, _⟩ := Rp.tupI (show Rp K O H x (.tuple ds) from l1)
      cases Rp.sc l2
      have hx : xs ≠ [] := by
        intro hx; subst hx; cases r1; exact h.1 rfl
      refine ⟨a, k, xs, rfl, rfl, s1, hx, h.2.1, h.2.2.1, by rw [r1.length]; exact h.2.2.2, fun p np => q _ _ (ext_new np) ?_⟩
      have x2 : Ext (fun _ => False) H (upd H p (.tup (List.replicate k.toNat xs).flatten)) := Ext.new np
      exact .tup (.inl ⟨.inl upd_same, fun h => hO p h np⟩) ((RpAll.rep r1 k.toNat).tr (fun _ _ _ n => n) fun a o _ e => x2.same a o e id)
    · cases hz
theorem c_mulT {ds : List D} {k : Int} (h : ds ≠ []) (h2 : 2 ≤ k) (h3 : k ≤ 1000) (h4 : ds.length ≤ 1000) : dMulT (.tuple ds) (.int k) = some (.tuple (repD k.toNat ds)) := if_pos (decide_eq_true ⟨h, h2, h3, h4⟩)
end
end GD

set_option maxHeartbeats 4000000
/-! an empty tuple times a number; max of three -/
namespace GD
open PySem PySem.Spec PyProof.Rows L2
theorem tuple_mul0 (l : Addr) (n : Nat) (dd : Option Addr) (sl : Array (Option Value)) (x : Int) (u : Tok) (c0 : (decide (x < -(2 ^ 63)) || decide (x ≥ 2 ^ 63)) = false) :
    Meets (Builtin.«tuple.__mul__» ⟨[.ref l, .int x u], []⟩) (fun _ R s => s.heap.get? l = some { cls := .type "tuple", dict := dd, data := .seq #[] n, slots := sl } ∧ R (.ok (.ret (Value.ref l))) s) :=
  .of_wp fun prog w A R s h => by
    obtain ⟨hp, g, d, tk, os⟩ := s
    obtain ⟨hl, h⟩ := h
    have f1 := AutoSeq1.idx_int
    wp_walk using wpAny_loadPart' hl
    repeat (first
      | (refine wpAny_ite_false (decide_eq_false (by rw [c0]; exact Bool.false_ne_true)) ?_; wp_walk using wpAny_loadPart' hl)
      | (refine wpAny_ite_true (by simp) ?_; wp_walk using wpAny_loadPart' hl))
    exact ⟨_, rfl, h⟩
def rRepT0 (K : PySem.W.Frag) : R2 := fun x y H Q => ∃ l k, x = .ref l ∧ y = .int k ∧ SqT K H l [] ∧ 2 ≤ k ∧ k ≤ 1000 ∧ Q (.ref l) H
theorem op_repT0 {X : Cx} : OpR X (binaryOp .Mult) (rRepT0 X.K) := by
  intro pins s σ H x y v u Q I rx ry h
  obtain ⟨l, k, rfl, rfl, hT, h1, h2, q⟩ := h
  cases rx
  obtain ⟨t, rfl⟩ := ry
  obtain ⟨its, r, ⟨⟨cls, dd, data, sl⟩, ho, hc, n, hd⟩, hs⟩ := I.tuple hT
  cases r
  simp only at hc hd
  subst hc hd
  have c0 : (decide (k < -(2 ^ 63)) || decide (k ≥ 2 ^ 63)) = false := by rw [decide_eq_false (by omega), decide_eq_false (by omega)] <;> rfl
  exact wpAny_binaryOp_repeat_ref (T := "tuple") (U := "int") (by decide) ⟨_, ho, rfl⟩ (fun s' => typeIs_int s' k t) noFill_tuple_mul F.fills_int_mul F.slot_int_rmul repeat_tuple F.slot_int_index.lookup
    (call_meets F.slot_int_rmul (typeIs_int s k t) F.entry_int_rmul (F.args_int_rmul_2 _ _) (int_rmul_tuple k t l #[] n dd sl)
      ⟨ho, rfl, ⟨_, ho, rfl⟩, call_meets F.slot_tuple_mul ⟨_, ho, rfl⟩ F.entry_tuple_mul (F.args_tuple_mul_2 _ _) (tuple_mul0 l n dd sl k t c0) ⟨ho, ⟨.ref l, H, I, rfl, q⟩⟩⟩)
def rRepTA (K : PySem.W.Frag) : R2 := fun x y H Q => rRepT K x y H Q ∨ rRepT0 K x y H Q
theorem op_repTA {X : Cx} : OpR X (binaryOp .Mult) (rRepTA X.K) := OpR.or op_repT op_repT0
section
variable {K : PySem.W.Frag}
def dMulTA : D → D → Option D
  | .tuple ds, .int k => if decide (2 ≤ k ∧ k ≤ 1000 ∧ ds.length ≤ 1000) = true then some (.tuple (repD k.toNat ds)) else none
  | _, _ => none
theorem repD_nil (n : Nat) : repD n [] = [] := by unfold repD; induction n <;> simp_all [List.replicate_succ]
theorem od_mulTA : OpD K (rRepTA K) dMulTA := by
  intro O H x y d e z hO l1 l2 hz Q q
  match d, e, hz, l1, l2 with
  | .tuple ds, .int k, hz, l1, l2 =>
    simp only [dMulTA] at hz
    split at hz
    · rename_i h
      cases hz
      have h := of_decide_eq_true h
      by_cases hd : ds = []
      · subst hd
        have r0 := (show Rp K O H x (.tuple []) from l1)
        obtain ⟨a, xs, rfl, s1, r1, _⟩ := Rp.tupI r0
        cases Rp.sc l2
        cases r1
        rw [repD_nil] at q
        exact .inr ⟨a, k, rfl, rfl, s1, h.1, h.2.1, q _ H Ext.refl r0⟩
      · exact .inl (od_mulT O H x y (.tuple ds) (.int k) _ hO l1 l2 (c_mulT hd h.1 h.2.1 h.2.2) Q q)
    · cases hz
theorem c_mulTA {ds : List D} {k : Int} (h2 : 2 ≤ k) (h3 : k ≤ 1000) (h4 : ds.length ≤ 1000) : dMulTA (.tuple ds) (.int k) = some (.tuple (repD k.toNat ds)) := if_pos (decide_eq_true ⟨h2, h3, h4⟩)
end
/-! max of three -/
section
variable {prog : Program} {w : World} {A : Around} {E : Value → Shared → Prop} {s : Shared}
theorem args_mx3 (a b c : Value) : argsOk "max" ⟨[a, b, c], []⟩ := by unfold argsOk; kernel_rfl
theorem max_three {a b c : Int} {t u v : Tok} {Q : Value → Shared → Prop} (hh : A.handled = none)
    (q : ∀ h' tk M t', (∀ d o, s.heap.get? d = some o → h'.get? d = some o) → M ∈ [a, b, c] → (∀ i, i ∈ [a, b, c] → i ≤ M) → Q (.int M t') { s with heap := h', toks := tk }) : wpAny (model prog w) A (call (.builtin "max") [.int a t, .int b u, .int c v]) Q E s := by
  have nm : (toString "max" ++ toString ".loop" : String) = "max.loop" := by decide
  have hT : (s.heap.push { cls := .type "tuple", data := .seq #[.int a t, .int b u, .int c v] }).IsTuple s.heap.objs.size (intItems #[(a, t), (b, u), (c, v)]) := ⟨_, Heap.get?_push_size _ rfl, rfl, 0, by simp [intItems]⟩
  have hsz : (s.heap.push { cls := .type "tuple", data := .seq #[.int a t, .int b u, .int c v] }).objs.size = s.heap.objs.size + 1 := Heap.size_push ..
  refine call_function_tree F.kind_max F.plain_max F.entry_max (args_mx3 _ _ _) ?_
  show wpAny _ A.in1 (Builtin.Builtins.bindParams "max" ["key", "default"] 0 ⟨[], []⟩ >>= _) _ _ s
  refine wpAny_bind (wpAny_of_eq (show Builtin.Builtins.bindParams "max" ["key", "default"] 0 ⟨[], []⟩ = pure [none, none] from rfl) ?_); show wpAny _ A.in1 (newTuple [.int a t, .int b u, .int c v] >>= _) _ _ s
  refine wpAny_bind (wpAny_newObj_type ?_); refine wpAny_bind (wpAny_pyIter_tuple hT ?_)
  refine wpAny_bind (wpAny_newObj_type ?_)
  rw [nm]
  have hne : s.heap.objs.size ≠ (s.heap.push { cls := .type "tuple", data := .seq #[.int a t, .int b u, .int c v] }).objs.size := by rw [hsz]; exact Nat.ne_of_lt (Nat.lt_succ_self _)
  have hW := Walks.tuple (prog := prog) (w := w) (A := A.in1) hh (s.heap.push { cls := .type "tuple", data := .seq #[.int a t, .int b u, .int c v] }).objs.size s.heap.objs.size hne (intItems #[(a, t), (b, u), (c, v)])
  refine wpAny_pure ⟨plainId_quiet F.plain_max_loop _, codeAny_max_loop_first hW _ (CmpOf.ints_gt (numAt #[(a, t), (b, u), (c, v)]) (fun _ _ => intItems_at)) _ (fun hm => ?_) (by simp [intItems]) (hW.frame _ _ _ (⟨⟨_, Heap.get?_push_size _ rfl, rfl, rfl⟩, hT.push _⟩) fun b _ o e => Heap.get?_push_of_some _ e) (Heap.get?_push_size _ rfl) fun x h' tk hx keep => ?_⟩
  · have z1 : ((s.heap.push { cls := .type "tuple", data := .seq #[.int a t, .int b u, .int c v] }).push { cls := .type "tuple_iterator", data := .fields #[.ref s.heap.objs.size, .int 0 0] }).objs.size = s.heap.objs.size + 2 := by rw [Heap.size_push, hsz]
    simp only [List.mem_cons, List.not_mem_nil, or_false] at hm
    rcases hm with hm | hm
    · exact absurd (hm.symm.trans z1) (by rw [hsz]; exact Nat.ne_of_lt (Nat.lt_succ_self _))
    · exact absurd (hm.symm.trans z1) (Nat.ne_of_lt (Nat.lt_add_of_pos_right (by decide)))
  · have hx' : (intItems #[(a, t), (b, u), (c, v)])[argBest (fun i j => decide (numAt #[(a, t), (b, u), (c, v)] i > numAt #[(a, t), (b, u), (c, v)] j)) 2]? = some x := by simpa [intItems] using hx
    obtain ⟨t', rfl⟩ := intItems_at hx'
    obtain ⟨g1, g2⟩ := argBest_gt (numAt #[(a, t), (b, u), (c, v)]) 2
    have g3 := g2 0 (by omega)
    have g4 := g2 1 (by omega)
    have g5 := g2 2 (by omega)
    refine q h' tk _ t' (fun d o e => ?_) ?_ fun i hi => ?_
    · have hd := Heap.lt_size e
      refine keep d o (fun hm => ?_) (fun hm => ?_) (Heap.get?_push_of_some _ (Heap.get?_push_of_some _ (Heap.get?_push_of_some _ e)))
      · simp only [List.mem_cons, List.not_mem_nil, or_false] at hm
        rw [hsz] at hm; exact absurd hm (Nat.ne_of_lt (Nat.lt_succ_of_lt hd))
      · rw [Heap.size_push, hsz] at hm; exact absurd hm (Nat.ne_of_lt (Nat.lt_succ_of_lt (Nat.lt_succ_of_lt hd)))
    · generalize argBest (fun i j => decide (numAt #[(a, t), (b, u), (c, v)] i > numAt #[(a, t), (b, u), (c, v)] j)) 2 = k at g1
      have : k = 0 ∨ k = 1 ∨ k = 2 := by omega
      rcases this with rfl | rfl | rfl <;> simp [numAt]
    · simp only [List.mem_cons, List.not_mem_nil, or_false] at hi
      rcases hi with rfl | rfl | rfl
      · exact g3
      · exact g4
      · exact g5
end
section
variable {X : Cx} {K : PySem.W.Frag}
theorem call_max3 (hc : X.calm = true) : CallR X (.builtin "max") (fun xs H Q => ∃ i j k, xs = [.int i, .int j, .int k] ∧ Q (.int (maxOf [i, j, k] 0)) H) := by
  intro pins s σ H xs us Q I r h
  obtain ⟨i, j, k, rfl, q⟩ := h
  cases r with
  | cons r1 r => cases r with
    | cons r2 r => cases r with
      | cons r3 r =>
        cases r
        obtain ⟨t1, rfl⟩ := r1
        obtain ⟨t2, rfl⟩ := r2
        obtain ⟨t3, rfl⟩ := r3
        exact max_three (I.ok.hd hc) fun h' tk M t' hk h1 h2 => ⟨.int M, H, I.kept hk, ⟨_, rfl⟩, by rw [maxOf_eq h1 h2] at q; exact q⟩
def cMax3 : List D → Option D
  | [.int i, .int j, .int k] => some (.int (maxOf [i, j, k] 0))
  | _ => none
theorem cd_max3 : CaD K (fun xs H Q => ∃ i j k, xs = [.int i, .int j, .int k] ∧ Q (.int (maxOf [i, j, k] 0)) H) cMax3 := by
  intro O H xs ds z hO l hz Q q
  match ds, hz, l with
  | [.int i, .int j, .int k], hz, l =>
    cases hz
    cases xs with
    | nil => exact l.elim
    | cons a xs =>
      obtain ⟨v, w, rfl, h, h2⟩ := LvAll.two l.2
      cases Rp.sc l.1
      cases Rp.sc h
      cases Rp.sc h2
      exact ⟨i, j, k, rfl, q _ H Ext.refl (.int _)⟩
theorem c_max3 {i j k : Int} : cMax3 [.int i, .int j, .int k] = some (.int (maxOf [i, j, k] 0)) := rfl
end
end GD

/-! x is True; repr of a list whose items hold dicts and no lists -/
namespace GD
open PySem PySem.Spec PyProof.Rows L2 PySem.SeqAt
def rIsB1 : R2 := fun x y H Q => ∃ a b, x = .bl a ∧ y = .bl b ∧ Q (.bl (decide (a = b))) H
theorem op_isB {X : Cx} : OpR X (compareOp .Is) rIsB1 := op_is_bl
section
variable {K : PySem.W.Frag}
def dIsB : D → D → Option D
  | .bool a, .bool b => some (.bool (decide (a = b)))
  | _, _ => none
theorem od_isB : OpD K rIsB1 dIsB := by
  intro O H x y d e z hO l1 l2 hz Q q
  match d, e, hz, l1, l2 with
  | .bool a, .bool b, hz, l1, l2 =>
    cases hz
    cases Rp.scB (show Rp K O H x (.bool a) from l1)
    cases Rp.scB (show Rp K O H y (.bool b) from l2)
    exact ⟨a, b, rfl, rfl, q _ H Ext.refl (.bl _)⟩
theorem c_isB {a b : Bool} : dIsB (.bool a) (.bool b) = some (.bool (decide (a = b))) := rfl
end
section
variable {prog : Program} {w : World} {h₀ : Heap} {a : Addr} {A : Around} {E : Value → Shared → Prop} {s : Shared} {Q : Value → Shared → Prop}
theorem repr_items {o : Obj} {vs : Array Value} {n : Nat} {xs : List PyData} {bs : List Addr} (h1 : h₀.get? a = some o) (h2 : o.cls = .type "list") (h3 : o.data = .seq vs n) (h4 : ReadsAll h₀ vs.toList xs bs) (hs : (PyData.list xs).showable = true) (hsm : sysModules ∉ bs)
    (hg : A.guards = some []) (hu : A.units + ((PyData.list xs).depth + 1) < cLine) (hk0 : ∀ b o, h₀.get? b = some o → s.heap.get? b = some o)
    (hQ : ∀ h' u tk, (∀ b o, s.heap.get? b = some o → h'.get? b = some o) → Q (.str (PyData.list xs).shown u) { s with heap := h', toks := tk }) (hsz : (PyData.list xs).shown.length ≤ sizeLine) : wpAny (model prog w) A (call (.builtin "repr") [.ref a]) Q E s := by
  have zz : (listText (PyData.shownAll xs)).length ≤ sizeLine := by
    simpa only [PyData.shown] using hsz
  obtain ⟨bs', hb, hk⟩ := ReprAllK.of_readsAll (prog := prog) (w := w) h4 (by simpa [PyData.showable] using hs) (fun _ hm => hsm hm) (fun t ht => Nat.le_trans (listText_mem_le ht) zz)
  have hna : a ∉ bs' := not_mem_of_deeper (.list h1 h2 h3 h4) (by simp only [PyData.depth]; omega) hb
  have S : ShowsBy prog w h₀ a (.list xs) "list" "list.__repr__" := by
    refine ⟨F.slot_list_repr.toG, F.slot_list_str, F.slot_list_format, fun s hk0 => ⟨o, hk0 _ _ h1, h2⟩, fun A E s Q hg hu hk0 hQ => ?_⟩
    simp only [PyData.depth] at hu; simp only [PyData.shown] at hQ
    obtain ⟨l⟩ := vs
    cases l with
    | nil =>
      cases (show ReadsAll h₀ [] xs _ from h4)
      simp only [listText_nil, PyData.shownAll] at hQ
      exact (call_list_repr_empty ⟨o, hk0 _ _ h1, h2⟩ (hk0 _ _ h1) h3 (hQ s.heap _ _ fun _ _ e => e))
    | cons x l => exact call_list_reprK h1 h2 h3 hna (by simpa using hk.length_eq) (fun i y e => hk.item i y (by simpa using e)) hg (fun b _ => Clear.nil b) hu hk0 hQ zz
  exact call_repr_slot (by omega) (S.typeIs s hk0) S.slotRepr (S.call A.in1 E s _ hg (by show A.units + 1 + (PyData.list xs).depth < cLine; omega) hk0 fun h' u tk hk => ⟨_, _, rfl, hQ h' u tk hk⟩)
end
def okShowL : D → Bool
  | .list ds => noLs ds && decide ((PyData.list ds).depth ≤ 60) && (PyData.list ds).showable && (PyData.list ds).leavesShort 200 && decide ((PyData.list ds).bulk ≤ 60000)
  | _ => false
def rReprL (K : PySem.W.Frag) : List V → Hp → VK → Prop := fun xs H Q => ∃ x ds O, xs = [x] ∧ Lv K O H x (.list ds) ∧ okShowL (.list ds) = true ∧ Q (.str (PyData.list ds).shown) H
section
variable {X : Cx}
theorem call_reprL (hg : X.A.guards = some []) (hu : X.A.units + 64 < cLine) : CallR X (.builtin "repr") (rReprL X.K) := by
  intro pins s σ H xs us Q I rr h
  obtain ⟨x, ds, O, rfl, hd, ok, q⟩ := h
  cases rr with
  | @cons _ u _ _ rx rt =>
    cases rt
    simp only [okShowL, Bool.and_eq_true, decide_eq_true_eq] at ok
    obtain ⟨⟨⟨⟨o1, o2⟩, o3⟩, o4⟩, o5⟩ := ok
    have hz : (PyData.list ds).shown.length ≤ sizeLine := by
      have := PyData.shown_le_bulk 200 (by decide) (PyData.list ds) o4
      have h2 : (200 + 2) * (PyData.list ds).bulk ≤ 202 * 60000 := Nat.mul_le_mul_left _ o5
      have h3 : (12120200 : Nat) ≤ sizeLine := by decide
      omega
    obtain ⟨a, ys, rfl, hH, ra⟩ := hd
    cases rx
    obtain ⟨its, rv, ⟨o, n, ho, hc, _, hdat⟩, _⟩ := I.list (X := X) (xs := ys) (.inl (.inl hH))
    obtain ⟨bs, r4, hn⟩ := RpAll.readsN I ds ys its ra rv o1
    exact repr_items ho hc hdat (by simpa using r4) o3 hn hg (by omega) (fun _ _ e => e) (fun h' t tk hk => ⟨.str _, H, I.kept (t' := tk) hk, ⟨t, rfl⟩, q⟩) hz
def rRepr3 (K : PySem.W.Frag) : List V → Hp → VK → Prop := fun xs H Q => rRepr2 K xs H Q ∨ rReprL K xs H Q
theorem call_repr3 (hg : X.A.guards = some []) (hu : X.A.units + 64 < cLine) : CallR X (.builtin "repr") (rRepr3 X.K) := CallR.or (call_repr2 hg hu) (call_reprL hg hu)
end
section
variable {K : PySem.W.Frag}
def okShow3 (d : D) : Bool := okShow2 d || okShowL d
def cRepr3 : List D → Option D
  | [d] => if okShow3 d = true then some (.str d.shown) else none
  | _ => none
theorem cd_repr3 : CaD K (rRepr3 K) cRepr3 := by
  intro O H xs ds z hO l hz Q q
  match ds, hz, l with
  | [d], hz, l =>
    simp only [cRepr3] at hz
    split at hz
    · rename_i hs
      cases hz
      by_cases h1 : okShow2 d = true
      · exact .inl (cd_repr2 O H xs [d] _ hO l (c_repr2 h1) Q q)
      · have h2 : okShowL d = true := by
          simp only [okShow3, Bool.or_eq_true] at hs
          exact hs.resolve_left h1
        obtain ⟨v, rfl, h⟩ := LvAll.one l
        cases d with
        | list ds => exact .inr ⟨v, ds, O, rfl, h, h2, q _ H Ext.refl (.str _)⟩
        | _ => cases h2
    · cases hz
theorem c_repr3 {d : D} (h : okShow3 d = true) : cRepr3 [d] = some (.str d.shown) := if_pos h
theorem okShow3_of {d : D} (h : okShow d = true) : okShow3 d = true := by unfold okShow3 okShow2; rw [h]; rfl
theorem okShow3_ofN {d : D} (h : okShowN d = true) : okShow3 d = true := by unfold okShow3 okShow2; rw [h]; simp
theorem okShow3_ofL {d : D} (h : okShowL d = true) : okShow3 d = true := by unfold okShow3; rw [h]; simp
end
end GD

/-! a list, whatever it holds, against [] -/
namespace GD
open PySem PySem.Spec PyProof.Rows L2 PySem.SeqAt
section
variable {X : Cx}
def rL0 (K : PySem.W.Frag) (f : Bool → Bool) : R2 := fun x y H Q => ∃ a b xs, x = .ref a ∧ y = .ref b ∧ SqL K H a xs ∧ SqL K H b [] ∧ Q (.bl (f xs.isEmpty)) H
theorem op_eqL0 (hu : X.A.units + 64 < cLine) : OpR X (compareOp .Eq) (rL0 X.K id) := by
  intro pins s σ H x y v u Q I rx ry h
  obtain ⟨a, b, xs, rfl, rfl, h1, h2, q⟩ := h
  cases rx
  cases ry
  obtain ⟨its, rv, pa, _⟩ := I.list h1
  obtain ⟨its2, rv2, pb, _⟩ := I.list h2
  cases rv2
  cases rv with
  | nil => exact eq_listAt (e := fun _ => true) pa.isList pb.isList rfl (by omega) (fun j h1 h2 => absurd h2 (by simp)) ⟨.bl true, H, I, rfl, q⟩
  | cons r rr => exact eq_list_lengthsAt pa.isList pb.isList (by simp) (by omega) ⟨.bl false, H, I, rfl, q⟩
theorem op_neL0 (hu : X.A.units + 64 < cLine) : OpR X (compareOp .NotEq) (rL0 X.K not) := by
  intro pins s σ H x y v u Q I rx ry h
  obtain ⟨a, b, xs, rfl, rfl, h1, h2, q⟩ := h
  cases rx
  cases ry
  obtain ⟨its, rv, pa, _⟩ := I.list h1
  obtain ⟨its2, rv2, pb, _⟩ := I.list h2
  cases rv2
  cases rv with
  | nil => exact RcNeAt.lists (e := fun _ => true) pa.isList pb.isList rfl (by omega) (fun j h1 h2 => absurd h2 (by simp)) X.prog X.w _ _ ⟨.bl false, H, I, rfl, q⟩
  | cons r rr => exact RcNeAt.lists_lengths pa.isList pb.isList (by simp) (by omega) X.prog X.w _ _ ⟨.bl true, H, I, rfl, q⟩
end
section
variable {K : PySem.W.Frag}
def dL0 (f : Bool → Bool) : D → D → Option D
  | .list ds, .list [] => some (.bool (f ds.isEmpty))
  | _, _ => none
theorem od_L0 {f : Bool → Bool} : OpD K (rL0 K f) (dL0 f) := by
  intro O H x y d e z hO l1 l2 hz Q q
  match d, e, hz, l1, l2 with
  | .list ds, .list [], hz, l1, l2 =>
    cases hz
    obtain ⟨a, xs, rfl, h1, r1⟩ := l1
    obtain ⟨b, ys, rfl, h2, r2⟩ := l2
    cases r2
    have e : xs.isEmpty = ds.isEmpty := by cases r1 <;> rfl
    refine ⟨a, b, xs, rfl, rfl, .inl (.inl h1), .inl (.inl h2), ?_⟩
    rw [e]
    exact q _ H Ext.refl (.bl _)
def dEqL0 : D → D → Option D := dL0 id
def dNeL0 : D → D → Option D := dL0 not
theorem od_eqL0 : OpD K (rL0 K id) dEqL0 := od_L0
theorem od_neL0 : OpD K (rL0 K not) dNeL0 := od_L0
theorem c_eqL0x {ds : List D} : dEqL0 (.list ds) (.list []) = some (.bool ds.isEmpty) := rfl
/-! a text in a tuple of texts -/
def dNotInT : D → D → Option D
  | .str i, .tuple ds => (strsOf ds).map fun bs => .bool (!inV (.str i) (bs.map V.str))
  | _, _ => none
theorem od_notInT : OpD K (rIn K true) dNotInT := by
  intro O H x y d e z hO l1 l2 hz Q q
  match d, e, hz, l1, l2 with
  | .str i, .tuple ds, hz, l1, l2 =>
    simp only [dNotInT, Option.map_eq_some_iff] at hz
    obtain ⟨bs, hb, rfl⟩ := hz
    cases Rp.scS l1
    obtain ⟨a, xs, rfl, h, r, _⟩ := Rp.tupI l2
    cases strsOf_ok r hb
    exact ⟨a, _, rfl, .inr h, rfl, by induction bs <;> simp_all [flatV], q _ H Ext.refl (.bl _)⟩
theorem inV_strs (x : Str) : ∀ ys : List Str, inV (.str x) (ys.map V.str) = ys.any fun y => decide (y = x)
  | [] => rfl
  | y :: ys => by
    have h := inV_strs x ys
    unfold inV at h ⊢
    rw [List.map_cons, List.any_cons, List.any_cons, h]
    congr 1
theorem c_inT0 {x : Str} (ys : List Str) : dInT (.str x) (.tuple (ys.map .str)) = some (.bool (ys.any fun y => decide (y = x))) := by
  show (strsOf (ys.map .str)).map (fun bs => PyData.bool (inV (.str x) (bs.map V.str))) = _
  rw [strsOf_map, Option.map_some, inV_strs]
theorem c_notInT0 {x : Str} (ys : List Str) : dNotInT (.str x) (.tuple (ys.map .str)) = some (.bool (!(ys.any fun y => decide (y = x)))) := by
  show (strsOf (ys.map .str)).map (fun bs => PyData.bool (!inV (.str x) (bs.map V.str))) = _
  rw [strsOf_map, Option.map_some, inV_strs]
theorem c_inT2 {x a b : Str} : dInT (.str x) (.tuple [.str a, .str b]) = some (.bool (decide (a = x) || decide (b = x))) := by
  have := c_inT0 (x := x) [a, b]
  simpa using this
theorem c_notInT2 {x a b : Str} : dNotInT (.str x) (.tuple [.str a, .str b]) = some (.bool (!(decide (a = x) || decide (b = x)))) := by
  have := c_notInT0 (x := x) [a, b]
  simpa using this
theorem c_neL0x {ds : List D} : dNeL0 (.list ds) (.list []) = some (.bool (!ds.isEmpty)) := rfl
end
end GD

set_option maxHeartbeats 4000000
/-! t[::-1] of a tuple; a, b = x, y -/
namespace GD
open PySem PySem.Spec PyProof.Rows L2
section
variable {prog : Program} {w : World} {A : Around} {E : Value → Shared → Prop} {s : Shared}
theorem rev_adjust (n : Nat) : Builtin.Slice.sliceAdjust none none (-1) (n : Int) = ((n : Int) - 1, -1) := rfl
theorem rev_places (n : Nat) : Builtin.Slice.slicePlaces ((n : Int) - 1) (-1) (-1) = n := by
  unfold Builtin.Slice.slicePlaces
  have h1 : ¬ (-1 : Int) > 0 := by omega
  simp only [h1, if_false, Int.neg_neg, Int.ediv_one]
  split <;> omega
theorem sliceApplied_rev {sl : Addr} {vs : Value} {n : Nat} {Q : Int × Int × Nat → Shared → Prop} (hs : s.heap.IsSliceOf sl .none .none vs) (ps : IsPart vs (some (-1)))
    (h : Q ((n : Int) - 1, -1, n) s) : wpAny (model prog w) A (Builtin.Slice.sliceApplied (.ref sl) (pure (n : Int))) Q E s := by
  obtain ⟨os, hos, hcs, hds⟩ := id hs
  unfold Builtin.Slice.sliceApplied Builtin.Slice.sliceFields
  refine wpAny_bind (wpAny_bind (wpAny_field hos hds (x := .none) rfl (wpAny_bind (wpAny_field hos hds (x := .none) rfl (wpAny_bind (wpAny_field hos hds (x := vs) rfl (wpAny_pure ?_)))))))
  refine wpAny_bind (HT.slicePart_ ps ?_)
  show wpAny _ _ (if ((-1 : Int) == 0) = true then _ else _) _ _ s
  rw [if_neg (by decide)]
  refine wpAny_bind (HT.slicePart_ .none (wpAny_bind (HT.slicePart_ .none (wpAny_bind (wpAny_pure ?_)))))
  show wpAny _ _ (match Builtin.Slice.sliceAdjust none none (-1) (n : Int) with | (lo, hi) => pure (lo, (-1 : Int), Builtin.Slice.slicePlaces lo hi (-1))) _ _ s
  rw [rev_adjust]
  show wpAny _ _ (pure ((n : Int) - 1, (-1 : Int), Builtin.Slice.slicePlaces ((n : Int) - 1) (-1) (-1))) _ _ s
  rw [rev_places]
  exact wpAny_pure h
theorem fm_congr {α β : Type} {f g : α → Option β} : ∀ {l : List α}, (∀ m ∈ l, f m = g m) → l.filterMap f = l.filterMap g
  | [], _ => rfl
  | a :: l, h => by
    rw [List.filterMap_cons, List.filterMap_cons, h a (List.mem_cons_self ..), fm_congr fun m hm => h m (List.mem_cons_of_mem _ hm)]
theorem rev_pick (xs : Array Value) : ((List.range xs.size).filterMap fun (m : Nat) => xs[(((xs.size : Int) - 1) + (m : Int) * (-1)).toNat]?).toArray = xs.toList.reverse.toArray := by
  have e : ∀ m ∈ List.range xs.size, xs[(((xs.size : Int) - 1) + (m : Int) * (-1)).toNat]? = xs[xs.size - 1 - m]? := fun m hm => by
    have := List.mem_range.mp hm
    rw [show (((xs.size : Int) - 1) + (m : Int) * (-1)).toNat = xs.size - 1 - m by omega]
  rw [fm_congr e]
  have e2 : (List.range xs.size).filterMap (fun m => xs[xs.size - 1 - m]?) = ((List.range xs.size).map fun k => xs.size - 1 - k).filterMap (xs[·]?) := by rw [List.filterMap_map]; rfl
  rw [e2, PySem.W.krv_range, List.filterMap_reverse, PySem.W.krv_all]
theorem getItem_tuple_rev {t sl : Addr} {items : Array Value} {vs : Value} {Q : Value → Shared → Prop} (ht : IsTup s.heap t items) (hs : s.heap.IsSliceOf sl .none .none vs) (ps : IsPart vs (some (-1)))
    (h : Q (.ref s.heap.objs.size) { s with heap := s.heap.push { cls := .type "tuple", data := .seq items.toList.reverse.toArray } })
    (hsz : items.size ≤ sizeLine) : wpAny (model prog w) A (getItem (.ref t) (.ref sl)) Q E s := by
  have htake : sizeOk (.seq items.toList.reverse.toArray) := by
    show items.toList.reverse.toArray.size ≤ sizeLine
    rw [List.size_toArray, List.length_reverse, Array.length_toList]
    exact hsz
  obtain ⟨os, hos, hcs, hds⟩ := id hs
  have hTs : s.TypeIs (.ref sl) "slice" := ⟨os, hos, hcs⟩
  unfold getItem
  try with_reducible refine wpAny_holding ?_
  first | refine wpAny_bind (wpAny_pure ?_) | skip
  refine wpAny_bind (wpAny_sequenceKey ht.typeIs (by decide) ?_)
  refine wpAny_bind (wpAny_callSpecial?_slot (name := Str.ofString "__getitem__") ht.typeIs PyProof.Rows.slot_tuple_getitem
    (wpAny_call_entry PyProof.Rows.slot_tuple_getitem ht.typeIs entry_tuple_getitem ?_ (args_tuple_getitem _ _)))
  show wpAny _ _ (Builtin.Tuple.tupleItemsOf (.ref t) >>= _) _ _ s
  refine wpAny_bind (tupleItemsOf_ ht ?_)
  refine wpAny_bind (wpAny_typeOf hTs ?_)
  rw [if_pos (by decide)]
  refine wpAny_bind (sliceApplied_rev hs ps ?_)
  have hno : ¬ ((((items.size : Int) - 1) == 0 && (-1 : Int) == 1 && items.size == items.size) = true) := by
    rw [show ((-1 : Int) == 1) = false from rfl, Bool.and_false, Bool.false_and]
    exact Bool.false_ne_true
  show wpAny _ _ (if ((((items.size : Int) - 1) == 0 && (-1 : Int) == 1 && items.size == items.size) = true) then _ else _) _ _ s
  rw [if_neg hno, rev_pick]
  first
    | exact wpAny_bind (m := Builtin.Tuple.tupleExact _) (wpAny_newObj_type (wpAny_pure ⟨_, rfl, wpAny_pure h⟩) htake)
    | exact wpAny_bind (m := Builtin.Tuple.tupleExact _) (wpAny_newObj_type (wpAny_bind (wpAny_pure (wpAny_pure ⟨_, rfl, wpAny_pure h⟩))) htake)
    | exact wpAny_bind (wpAny_bind (m := Builtin.Tuple.tupleExact _) (wpAny_newObj_type (wpAny_pure (wpAny_pure ⟨_, rfl, wpAny_pure h⟩)) htake))
    | exact wpAny_bind (wpAny_bind (m := Builtin.Tuple.tupleExact _) (wpAny_newObj_type (wpAny_pure ⟨_, rfl, wpAny_pure h⟩) htake))
end
def tRevT (K : PySem.W.Frag) (te : TE) : TE := fun σ H Q => te σ H fun x H1 => ∃ a xs, x = .ref a ∧ SqT K H1 a xs ∧ ∀ p, H1 p = none → Q (.ref p) (upd H1 p (.tup xs.reverse))
section
variable {X : Cx}
theorem pe_revT {e : Expr} {te : TE} {k : Nat} {p1 p2 p3 pos : Pos} (he : PE X e te) : PE X (.Subscript e (.Slice none none (some (.UnaryOp .USub (.Constant (.int 1) k p1) p2)) p3) pos) (tRevT X.K te) := by
  refine ⟨fun pins s σ H Q I h => ?_⟩
  refine Subscript_ (thn (he.run pins s σ H _ I h) fun v s1 ⟨x, H1, I1, r1, q1⟩ => ?_)
  obtain ⟨a, xs, ex, hx, q⟩ := q1
  subst ex
  cases r1
  have hst : PO X (some (.UnaryOp .USub (.Constant (.int 1) k p1) p2)) (tPart (tUn (rU fun i => .int (-i)) (tC (.int 1)))) := po_some (pe_un un_neg pe_int)
  refine wpAny_Slice (thn (po_none.run pins s1 σ H1 (fun o H2 => o = none ∧ H2 = H1) I1 ⟨rfl, rfl⟩) fun vl s2 ⟨l, H2, I2, pl, el, e2⟩ => ?_)
  subst el e2
  refine thn (po_none.run pins s2 σ H2 (fun o H3 => o = none ∧ H3 = H2) I2 ⟨rfl, rfl⟩) fun vu s3 ⟨u, H3, I3, pu, eu, e3⟩ => ?_
  subst eu e3
  refine thn (hst.run pins s3 σ H3 (fun o H4 => o = some (-1) ∧ H4 = H3) I3 ⟨1, rfl, -1, rfl, rfl, rfl⟩) fun vs s4 ⟨o, H4, I4, ps, eo, e4⟩ => ?_
  subst eo e4
  cases pl
  cases pu
  have I5 : Inv X pins σ H4 { s4 with heap := s4.heap.push { cls := .type "slice", data := .fields #[.none, .none, vs] } } := I4.kept (t' := s4.toks) fun b ob q => Heap.get?_push_of_some _ q
  obtain ⟨its, r, ht, hz⟩ := I5.tuple hx
  have hlen := r.length
  show wpAny (model X.prog X.w) X.A (subscriptTail e (.Slice none none (some (.UnaryOp .USub (.Constant (.int 1) k p1) p2)) p3) (.ref a) (.ref s4.heap.objs.size)) (EP X pins σ Q) X.xe { s4 with heap := s4.heap.push { cls := .type "slice", data := .fields #[.none, .none, vs] } }
  refine tail_any (ops := [.ref a, .ref s4.heap.objs.size]) ht.typeIs PyProof.Rows.slot_tuple_getitem.lookup ?_ (by with_unfolding_all rfl)
  refine getItem_tuple_rev ht (Heap.IsSliceOf.new _ .none .none vs) ps ?_ (by rw [List.size_toArray]; omega)
  refine ⟨.ref _, _, I5.laid (t' := s4.toks) (o := .tup xs.reverse) (fun b ob q => Heap.get?_push_of_some _ q) (Nat.le_refl _) ?_, rfl, q _ (I5.hok.fresh (Nat.le_refl _))⟩
  exact ⟨by rw [List.length_reverse]; exact hz, _, r.reverse, IsTup.new _ _⟩
end
section
variable {K : PySem.W.Frag}
def dRev : D → Option D
  | .tuple ds => some (.tuple ds.reverse)
  | _ => none
theorem RpAll.reverse {O : Addr → Prop} {H : Hp} : ∀ {vs : List V} {ds : List D}, RpAll K O H vs ds → RpAll K O H vs.reverse ds.reverse
  | [], [], h => h
  | v :: vs, d :: ds, h => by
    cases h with
    | cons h1 h2 =>
      rw [List.reverse_cons, List.reverse_cons]
      exact RpAll.append (RpAll.reverse h2) (.cons h1 .nil)
  | [], _ :: _, h => nomatch h
  | _ :: _, [], h => nomatch h
theorem ie_revT {te : TE} {fe : EvE} (he : IE K te fe) : IE K (tRevT K te) (eUn dRev fe) := by
  intro F T env σ H r env' S e Q q
  simp only [eUn, Option.bind_eq_some_iff, Option.map_eq_some_iff] at e
  obtain ⟨⟨d, e1⟩, h1, z, h2, h3⟩ := e
  cases h3
  refine i1 he S h1 fun x H' S' st l1 => ?_
  match d, h2, l1 with
  | .tuple ds, h2, l1 =>
    cases h2
    obtain ⟨a, xs, rfl, s1, r1, _⟩ := Rp.tupI (show Rp K (Ow F T e1 σ) H' x (.tuple ds) from l1)
    refine ⟨a, xs, rfl, s1, fun p np => ?_⟩
    have x2 : Ext (fun _ => False) H' (upd H' p (.tup xs.reverse)) := Ext.new np
    refine q _ _ (S'.lay x2) (st.trans (Stp.lay x2)) (.tup (.inl ⟨.inl upd_same, fun h => (fun a h => S'.olive h) p h np⟩) ((RpAll.reverse r1).tr (fun _ _ _ n => n) fun a o _ e => x2.same a o e id))
theorem c_revT {ds : List D} : dRev (.tuple ds) = some (.tuple ds.reverse) := rfl
/-! two names at once -/
def sPar (i j : Nat) (fa : EvA) : EvS := fun env => (fa env).bind fun p => match p.1 with
  | [r, s] => (rk p.2 r).bind fun d => (rk p.2 s).map fun e => (.nx, (p.2.set i (some (.shr d))).set j (some (.shr e)))
  | _ => none
theorem is_par {i j : Nat} {ta : TA} {fa : EvA} (h : IA K ta fa) : IS K (tPar i j ta) (sPar i j fa) := by
  intro F env σ H fl env' S e Dn k
  simp only [sPar, Option.bind_eq_some_iff] at e
  obtain ⟨⟨rs, e1⟩, a1, a2⟩ := e
  refine h F T0 env σ H rs e1 S a1 _ fun vs H' S' st rv => ?_
  match rs, vs, a2, rv with
  | [r, s], [v, w], a2, rv =>
    simp only [Option.bind_eq_some_iff, Option.map_eq_some_iff] at a2
    obtain ⟨d, h1, d2, h2, h3⟩ := a2
    cases h3
    have r1 := rk_ok S' rv.1 h1
    have r2 := rk_ok S' rv.2.1 h2
    have S1 := S'.setS (i := i) r1
    have ow : ∀ b, Ow F T0 (e1.set i (some (.shr d))) (σ.set i (some v)) b → Ow F T0 e1 σ b := fun b h => h.imp id (.imp id fun h => (wr_set h).elim id fun ⟨p, m, e, _⟩ => by cases e)
    refine ⟨v, w, rfl, k _ H' (S1.setS (r2.anti ow)) (st.q.trans (S'.setS_q.trans S1.setS_q))⟩
  | [], _, a2, _ => cases a2
  | [_], _, a2, _ => cases a2
  | _ :: _ :: _ :: _, _, a2, _ => cases a2
  | [_, _], [], _, rv => exact rv.elim
  | [_, _], [_], _, rv => exact rv.2.elim
  | [_, _], _ :: _ :: _ :: _, _, rv => exact rv.2.2.elim
variable {i j : Nat} {fa : EvA} {env e : En} {rs : List R} {r s : R}
def parR (i j : Nat) : Option (List R × En) → Option (Fl × En)
  | some ([r, s], e) => (rk e r).bind fun d => (rk e s).map fun d' => (.nx, (e.set i (some (.shr d))).set j (some (.shr d')))
  | _ => none
theorem q_par : sPar i j fa env = parR i j (fa env) := by
  unfold sPar parR
  cases h : fa env with
  | none => rfl
  | some p =>
    obtain ⟨rs, e⟩ := p
    match rs with
    | [r, s] => rfl
    | [] => rfl
    | [_] => rfl
    | _ :: _ :: _ :: _ => rfl
theorem q_par1 {d d' : D} : parR i j (some ([.val d, .val d'], e)) = some (.nx, (e.set i (some (.shr d))).set j (some (.shr d'))) := rfl
end
end GD

set_option maxHeartbeats 4000000
/-! xs.index(v), max(xs), zip(a list, a tuple) -/
namespace GD
open PySem PySem.Spec PyProof.Rows L2
/-! ### index -/
def ixOf (d : D) : List D → Option Nat
  | [] => none
  | z :: l => if PyData.eqv z d = true then some 0 else (ixOf d l).map (· + 1)
theorem ixOf_ok {d : D} : ∀ {ds : List D} {j : Nat}, ixOf d ds = some j → ∃ z, ds[j]? = some z ∧ PyData.eqv z d = true ∧ ∀ (m : Nat) (z' : D), m < j → ds[m]? = some z' → PyData.eqv z' d = false
  | [], j, h => by cases h
  | y :: l, j, h => by
    unfold ixOf at h
    split at h
    · rename_i c
      cases h
      exact ⟨y, rfl, c, fun m z' hm => absurd hm (Nat.not_lt_zero _)⟩
    · rename_i c
      cases h1 : ixOf d l with
      | none => rw [h1] at h; cases h
      | some k =>
        rw [h1] at h; cases h
        obtain ⟨z, a, b, e⟩ := ixOf_ok h1
        refine ⟨z, by simpa using a, b, fun m z' hm hz => ?_⟩
        cases m with
        | zero => cases hz; simpa using c
        | succ m => exact e m z' (Nat.lt_of_succ_lt_succ hm) (by simpa using hz)
section
variable {K : PySem.W.Frag}
def mIndex : D → List D → Option D
  | .list ds, [d] => if (SeqAt.shaped (.list ds) && SeqAt.shaped d) = true then (ixOf d ds).map fun j => .int (j : Nat) else none
  | _, _ => none
theorem bm_index : BmD K (rIndexD K) mIndex := by
  intro O H x d vs ds z hO l1 l2 hz Q q
  match d, ds, hz, l1, l2 with
  | .list es, [d], hz, l1, l2 =>
    simp only [mIndex] at hz
    split at hz
    · rename_i hs
      rw [Bool.and_eq_true] at hs
      cases h1 : ixOf d es with
      | none => rw [h1] at hz; cases hz
      | some j =>
        rw [h1] at hz; cases hz
        obtain ⟨v, rfl, h⟩ := LvAll.one l2
        obtain ⟨y, e1, e2, e3⟩ := ixOf_ok h1
        obtain ⟨a, xs, rfl, s1, r1⟩ := id l1
        exact ⟨a, v, d, es, j, y, rfl, rfl, Lv.dp l1 (nodict_of hs.1), Lv.dp h (nodict_of hs.2), hs.1, hs.2, e1, e2, e3, q _ H Ext.refl (.int _)⟩
    · cases hz
theorem c_index {ds : List D} {d : D} {j : Nat} (h1 : SeqAt.shaped (.list ds) = true) (h2 : SeqAt.shaped d = true) (h : ixOf d ds = some j) : mIndex (.list ds) [d] = some (.int (j : Nat)) := by
  show (if (SeqAt.shaped (.list ds) && SeqAt.shaped d) = true then (ixOf d ds).map fun j => PyData.int (j : Nat) else none) = _
  rw [if_pos (by rw [h1, h2]; rfl), h]; rfl
/-! ### max of a list -/
def cMaxL : List D → Option D
  | [.list ds] => (intsOf ds).bind fun ns => if ns.length = 0 then none else some (.int (maxOf ns 0))
  | _ => none
theorem cd_maxL : CaD K (rMax K) cMaxL := by
  intro O H xs ds z hO l hz Q q
  match ds, hz, l with
  | [.list es], hz, l =>
    simp only [cMaxL, Option.bind_eq_some_iff] at hz
    obtain ⟨ns, h1, h2⟩ := hz
    split at h2
    · cases h2
    · rename_i hn
      cases h2
      obtain ⟨v, rfl, h⟩ := LvAll.one l
      obtain ⟨a, ys, rfl, s1, r1⟩ := h
      have ex := intsOf_ok r1 h1
      subst ex
      refine ⟨a, ns, rfl, .inl (.inl s1), by omega, fun m hm hm2 => ?_⟩
      rw [maxOf_eq (d := 0) hm hm2] at q
      exact q _ H Ext.refl (.int _)
theorem c_maxL {ns : List Int} (h : 0 < ns.length) : cMaxL [.list (ns.map .int)] = some (.int (maxOf ns 0)) := by
  simp only [cMaxL, intsOf_map, Option.bind_some]
  rw [if_neg (by omega)]
end
/-! ### zip of a list and a tuple -/
def ItzM (K : PySem.W.Frag) (a b : Addr) : It :=
  ⟨fun i H => ∃ (xs ys : List V) (x y : V), SqL K H a xs ∧ SqT K H b ys ∧ xs[i]? = some x ∧ ys[i]? = some y,
    fun i H v H' => ∃ T x y, v = .ref T ∧ H T = none ∧ H' = upd H T (.tup [x, y]) ∧ (∀ xs, SqL K H a xs → xs[i]? = some x) ∧ ∀ ys, SqT K H b ys → ys[i]? = some y,
    fun i H => ∃ xs ys : List V, SqL K H a xs ∧ SqT K H b ys ∧ (xs.length ≤ i ∨ ys.length ≤ i)⟩
section
variable {prog : Program} {w : World} {A : Around}
theorem drawsL (hh : A.handled = none) (it l : Addr) (hne : l ≠ it) (xs : Array Value) (k : Nat) :
    Draws prog w A it [it, l] (xs.size - k) (fun i v => xs[k + i]? = some v) (fun i h => h.IsListIter it l (k + i) ∧ h.IsList l xs) where
  live := fun _ _ st => let ⟨o, ho, _⟩ := st.1; ⟨o, ho⟩
  frame := fun _ _ _ st hk => ⟨st.1.at fun o e => hk it (by simp) o e, st.2.at fun o e => hk l (by simp) o e⟩
  item := fun i s Q E hi st hQ => wpAny_nextOf_list_item st.1 st.2 (x := xs[k + i]'(by omega)) (by simp) fun h' a b => hQ _ h' s.toks (by simp) ⟨a, st.2.extBut b.extBut hne⟩ b
  done := fun s Q E st hE => wpAny_nextOf_list_end hh st.1 st.2 (by simp; omega) hE
theorem drawsT (hh : A.handled = none) (it l : Addr) (hne : l ≠ it) (xs : Array Value) (k : Nat) :
    Draws prog w A it [it, l] (xs.size - k) (fun i v => xs[k + i]? = some v) (fun i h => h.IsTupleIter it l (k + i) ∧ h.IsTuple l xs) where
  live := fun _ _ st => let ⟨o, ho, _⟩ := st.1; ⟨o, ho⟩
  frame := fun _ _ _ st hk => ⟨st.1.at fun o e => hk it (by simp) o e, st.2.at fun o e => hk l (by simp) o e⟩
  item := fun i s Q E hi st hQ => wpAny_nextOf_tuple_item st.1 st.2 (x := xs[k + i]'(by omega)) (by simp) fun h' a b => hQ _ h' s.toks (by simp) ⟨a, st.2.extBut b.extBut hne⟩ b
  done := fun s Q E st hE => wpAny_nextOf_tuple_end hh st.1 st.2 (by simp; omega) hE
end
theorem five {c z TI TO i1 i2 : Addr} (h : c ∈ [z, TI, TO, i1, i2]) : c = z ∨ c = TI ∨ c = TO ∨ c = i1 ∨ c = i2 := by simpa using h
theorem turn_zipM {P : Program} {w : World} {K : PySem.W.Frag} {elts : List Expr} {kk : Nat} {tpos : Pos} {a b z TI TO i1 i2 : Addr} (S : ZipSep2 z TI TO i1 i2 [i1, a] [i2, b]) (n1 : a ≠ i1) (n2 : b ≠ i2) :
    Turn P w K (.Tuple elts kk tpos) (ItzM K a b) [z, TI, TO, i1, i2] z (fun i h => IsZip h z TI TO .none ∧ IsTupOf2 h TI (.ref i1) (.ref i2) ∧ (∃ x y, IsTupOf2 h TO x y) ∧ h.IsListIter i1 a i ∧ h.IsTupleIter i2 b i) where
  mem := by simp
  obj := fun i h st c hc => by
    obtain ⟨hz, hTI, ⟨x, y, hTO⟩, ⟨o1, e1, _, d1⟩, ⟨o2, e2, _, d2⟩⟩ := st
    rcases five hc with rfl | rfl | rfl | rfl | rfl
    · exact ⟨_, hz, fun v q => nomatch q⟩
    · exact ⟨_, hTI, fun v q => nomatch q⟩
    · exact ⟨_, hTO, fun v q => nomatch q⟩
    · exact ⟨o1, e1, fun v q => by rw [d1] at q; cases q⟩
    · exact ⟨o2, e2, fun v q => by rw [d2] at q; cases q⟩
  keep := fun i h h' st k => by
    obtain ⟨hz, hTI, ⟨x, y, hTO⟩, h1, h2⟩ := st
    exact ⟨k z (by simp) _ hz, k TI (by simp) _ hTI, ⟨x, y, k TO (by simp) _ hTO⟩, h1.at fun o q => k i1 (by simp) o q, h2.at fun o q => k i2 (by simp) o q⟩
  item := by
    intro X hP hw hK hc i pins s σ H E I hf st hg
    subst hP hw hK
    obtain ⟨hz, hTI, ⟨x0, y0, hTO⟩, h1, h2⟩ := st
    obtain ⟨xs, ys, x, y, hqx, hqy, hx, hy⟩ := hg
    obtain ⟨its, rv, p, _⟩ := I.list hqx
    obtain ⟨its2, rv2, p2, _⟩ := I.tuple hqy
    obtain ⟨u, hu, ru⟩ := rv.get hx
    obtain ⟨u2, hu2, ru2⟩ := rv2.get hy
    have hzl : z < s.heap.objs.size := Heap.lt_size hz
    have lt1 : i < its.toArray.size := by simpa using (List.getElem?_eq_some_iff.mp hu).1
    have lt2 : i < its2.toArray.size := by simpa using (List.getElem?_eq_some_iff.mp hu2).1
    refine wpAny_pyNext_zipD2_item S (Draws.list (A := X.A.in1) (I.ok.hd hc) i1 a n1 its.toArray) (Draws.tuple (A := X.A.in1) (I.ok.hd hc) i2 b n2 its2.toArray) hz hTI hTO ⟨h1, p.isList⟩ ⟨h2, p2⟩ lt1 lt2 fun v1 v2 h' tk q1 q2 z' TO' g1 g2 hT hsz hk => ?_
    have e1 : v1 = u := by
      have : its.toArray[i]? = some u := by simpa using hu
      rw [this] at q1; cases q1; rfl
    have e2 : v2 = u2 := by
      have : its2.toArray[i]? = some u2 := by simpa using hu2
      rw [this] at q2; cases q2; rfl
    subst e1 e2
    refine ⟨_, rfl, wpAny_letOwnedTupleGo_zip (s := { s with heap := h', toks := tk }) z' fun h'' z'' sb => ?_⟩
    have hT2 : h''.get? s.heap.objs.size = some { cls := .type "tuple", data := .seq #[v1, v2] } := (sb.2 _ (Nat.ne_of_gt hzl)).trans hT
    have new : ObjOk X.prog X.w (upd H s.heap.objs.size (.tup [x, y])) h'' s.heap.objs.size (.tup [x, y]) :=
      ⟨by show 2 ≤ sizeLine; decide, [v1, v2], .cons ru (.cons ru2 .nil), ⟨_, hT2, rfl, _, rfl⟩⟩
    have ne : ∀ {c d : Addr}, c ∉ [z, TI, TO, i1, i2] → d ∈ [z, TI, TO, i1, i2] → c ≠ d := fun h1 h2 e => h1 (e ▸ h2)
    have I1 : Inv X pins σ (upd H s.heap.objs.size (.tup [x, y])) { s with heap := h'', toks := tk } :=
      I.turnedNew (t' := tk) (ch := [z, TI, TO, i1, i2]) (fun c o hb q => (sb.2 c (ne hb (by simp))).trans (hk c o (ne hb (by simp)) (ne hb (by simp)) (ne hb (by simp)) (ne hb (by simp)) q)) hf (Nat.le_refl _) new
    refine ⟨.ref s.heap.objs.size, _, I1, rfl, ⟨_, x, y, rfl, I.hok.fresh (Nat.le_refl _), rfl, fun l hl => by rw [I.list_inj hl hqx]; exact hx, fun l hl => by rw [I.tuple_inj hl hqy]; exact hy⟩, ⟨z'', ?_, ⟨v1, v2, ?_⟩, ?_, ?_⟩, fun c hcm => ?_⟩
    · exact (sb.2 _ S.TIz).trans (hk _ _ S.TIz S.TITO S.TIi1 S.TIi2 hTI)
    · exact (sb.2 _ S.TOz).trans TO'
    · exact g1.1.at fun o q => (sb.2 _ S.zi1.symm).trans q
    · exact g2.1.at fun o q => (sb.2 _ S.zi2.symm).trans q
    · have hlt : c < s.heap.objs.size := by
        rcases five hcm with rfl | rfl | rfl | rfl | rfl
        · exact hzl
        · exact Heap.lt_size hTI
        · exact Heap.lt_size hTO
        · obtain ⟨_, e1, _⟩ := h1; exact Heap.lt_size e1
        · obtain ⟨_, e2, _⟩ := h2; exact Heap.lt_size e2
      rw [upd_ne (Nat.ne_of_lt hlt)]
      exact (hf c hcm).1
  done := by
    intro X hP hw hK hc i pins s σ H E I hf st hg
    subst hP hw hK
    obtain ⟨hz, hTI, ⟨x0, y0, hTO⟩, h1, h2⟩ := st
    obtain ⟨xs, ys, hqx, hqy, hend⟩ := hg
    obtain ⟨its, rv, p, _⟩ := I.list hqx
    obtain ⟨its2, rv2, p2, _⟩ := I.tuple hqy
    have l1 := rv.length
    have l2 := rv2.length
    have s1 : its.toArray.size = its.length := by simp
    have s2 : its2.toArray.size = its2.length := by simp
    have ne : ∀ {c d : Addr}, c ∉ [z, TI, TO, i1, i2] → d ∈ [z, TI, TO, i1, i2] → c ≠ d := fun h1 h2 e => h1 (e ▸ h2)
    exact wpAny_pyNext_zipD2_end S (drawsL (A := X.A.in1) (I.ok.hd hc) i1 a n1 its.toArray i) (drawsT (A := X.A.in1) (I.ok.hd hc) i2 b n2 its2.toArray i) (i := 0) hz hTI hTO ⟨h1, p.isList⟩ ⟨h2, p2⟩ (Nat.zero_le _) (Nat.zero_le _) (by omega)
      fun h' tk hk => ⟨rfl, I.turnedL (t' := tk) (ch := [z, TI, TO, i1, i2]) (fun c o hb q => hk c o (ne hb (by simp)) (ne hb (by simp)) (ne hb (by simp)) (ne hb (by simp)) q) hf⟩
  self := fun A i s Q E st h => wpAny_pyIter_zip st.1 h
def jZipM (K : PySem.W.Frag) (ta : TA) : TI := fun σ H R => ta σ H fun vs H1 => ∃ a b xs ys, vs = [.ref a, .ref b] ∧ SqL K H1 a xs ∧ SqT K H1 b ys ∧ R (ItzM K a b) H1
theorem pi_zipM {X : Cx} {e e2 : Expr} {ta : TA} {p pos tpos : Pos} {elts : List Expr} {kk : Nat} (hg : Gl X "zip") (hm : X.mg "zip" = none) (ha : PA X [e, e2] ta)
    (hs : starEach [e, e2] X.env = (false, eval e X.env) :: starEach [e2] X.env := by rfl) (hpl : (backTo pos (starEach [e2] X.env)).any (·.1) = false := by rfl) :
    PI X (.Tuple elts kk tpos) (.Call (.Name "zip" p) [e, e2] [] pos) (jZipM X.K ta) := by
  refine ⟨fun pins s σ H R I h => ?_⟩
  refine Call_ (ld_blt I hg hm PyProof.Rows.boot_zip (PyProof.Rows.callWith_type1 (thn (ha.run pos pins s σ H _ I h) fun us s1 ⟨vs, H1, I1, r1, q1⟩ => ?_) hs hpl))
  obtain ⟨a, b, xs, ys, rfl, hqx, hqy, q⟩ := q1
  cases r1 with
  | cons r rr =>
    cases rr with
    | cons r' rr =>
    cases rr
    cases r
    cases r'
    obtain ⟨its, rv, p1, _⟩ := I1.list hqx
    obtain ⟨its2, rv2, p2, _⟩ := I1.tuple hqy
    obtain ⟨o2, ho2, _⟩ := id p2
    have la : a < s1.heap.objs.size := p1.lt
    have lb : b < s1.heap.objs.size := Heap.lt_size ho2
    have fps : ∀ c, c ∈ [s1.heap.objs.size + 4, s1.heap.objs.size + 2, s1.heap.objs.size + 3, s1.heap.objs.size, s1.heap.objs.size + 1] → s1.heap.objs.size ≤ c := fun c hc => by
      rcases five hc with rfl | rfl | rfl | rfl | rfl <;> omega
    refine zip_begins2 (begins_list a its.toArray) (begins_tuple b its2.toArray) p1.isList p2 fun h' hz hTI hTO h1 h2 hsz hk => wpAny_pyIter_zip hz ?_
    have S := zip_sep2 (N := s1.heap.objs.size) (fp1 := [a]) (fp2 := [b]) (fun c hc => by rw [List.mem_singleton.mp hc]; exact la) (fun c hc => by rw [List.mem_singleton.mp hc]; exact lb)
    exact ⟨s1.heap.objs.size + 4, [s1.heap.objs.size + 4, s1.heap.objs.size + 2, s1.heap.objs.size + 3, s1.heap.objs.size, s1.heap.objs.size + 1], _, _, H1, rfl, I1.kept (t' := s1.toks) hk, turn_zipM S (Nat.ne_of_lt la) (Nat.ne_of_lt (Nat.lt_succ_of_lt lb)),
      ⟨hz, hTI, ⟨_, _, hTO⟩, ⟨_, h1, rfl, rfl⟩, ⟨_, h2, rfl, rfl⟩⟩, fun c hc => I1.fpOk (fps c hc) (I1.hok.fresh (fps c hc)), q⟩
section
variable {K : PySem.W.Frag}
def zipM (xs ys : List D) : List D := (xs.zip ys).map fun p => .tuple [p.1, p.2]
theorem zipM_at {xs ys : List D} {i : Nat} {d : D} (h : (zipM xs ys)[i]? = some d) : ∃ x y, xs[i]? = some x ∧ ys[i]? = some y ∧ d = .tuple [x, y] := by
  unfold zipM at h
  rw [List.getElem?_map] at h
  cases e : (xs.zip ys)[i]? with
  | none => rw [e] at h; cases h
  | some p =>
    rw [e] at h; cases h
    obtain ⟨e1, e2⟩ := List.getElem?_zip_eq_some.mp e
    exact ⟨p.1, p.2, e1, e2, rfl⟩
def wZipM2 (e : En) : List D → Option (List D × En)
  | [.list xs, .tuple ys] => some (zipM xs ys, e)
  | _ => none
def wZipM1 (e : En) : Option (List D) → Option (List D × En)
  | some ds => wZipM2 e ds
  | none => none
def wZipM0 : Option (List R × En) → Option (List D × En)
  | some (l, e) => wZipM1 e (rkA e l)
  | none => none
def wZipM (fl : EvA) : EvW := fun env => wZipM0 (fl env)
theorem q_wzm {fl : EvA} {env : En} : wZipM fl env = wZipM0 (fl env) := rfl
theorem q_wzm0 {l : List R} {e : En} : wZipM0 (some (l, e)) = wZipM1 e (rkA e l) := rfl
theorem q_wzm1 {ds : List D} {e : En} : wZipM1 e (some ds) = wZipM2 e ds := rfl
theorem q_wzm2 {xs ys : List D} {e : En} : wZipM2 e [.list xs, .tuple ys] = some (zipM xs ys, e) := rfl
theorem iw_zipM {tl : TA} {fl : EvA} (hl : IA K tl fl) : IW K (jZipM K tl) (wZipM fl) := by
  intro F T env σ H items env' S e R k
  simp only [wZipM] at e
  cases h1 : fl env with
  | none => rw [h1] at e; cases e
  | some p =>
    obtain ⟨l, e1⟩ := p
    rw [h1] at e
    simp only [wZipM0] at e
    cases h2 : rkA e1 l with
    | none => rw [h2] at e; cases e
    | some ds =>
      rw [h2] at e
      refine hl F T env σ H l _ S h1 _ fun vs H1 S1 s1 v1 => ?_
      have la := rkA_ok S1 v1 h2
      match ds, e, la with
      | [.list xs, .tuple ys], e, .cons rd (.cons rd2 .nil) =>
        cases e
        cases rd with
        | lst he hn hr =>
          cases rd2 with
          | @tup b us _ he2 hr2 =>
            refine ⟨_, _, _, _, rfl, .inl (.inl he), he2.imp (·.1) id, k _ H1 S1 s1 fun O' H2 f kk hO => ?_⟩
            have e2 := kk _ _ hn he
            have r2 := RpAll.tr f kk hr
            have t2 : SqT K H2 b us := tup_tr f kk he2
            have q2 := RpAll.tr f kk hr2
            have len1 := r2.length
            have len2 := q2.length
            refine ⟨fun i d hi => ?_, fun i hi => ?_⟩
            · obtain ⟨x, y, hx, hy, rfl⟩ := zipM_at hi
              obtain ⟨v, hv, rv⟩ := r2.get hx
              obtain ⟨u, hu, ru⟩ := q2.get hy
              refine ⟨⟨_, _, v, u, .inl (.inl e2), t2, hv, hu⟩, fun x' H' y' => ?_⟩
              obtain ⟨T1, x1, y1, rfl, nT, rfl, hx1, hy1⟩ := y'
              have z1 := hx1 _ (.inl (.inl e2))
              rw [hv] at z1; cases z1
              have z2 := hy1 _ t2
              rw [hu] at z2; cases z2
              exact ⟨ext_new nT, .tup (.inl ⟨.inl upd_same, fun h => hO _ h nT⟩) (.cons (rv.upd nT) (.cons (ru.upd nT) .nil))⟩
            · refine ⟨_, _, .inl (.inl e2), t2, ?_⟩
              unfold zipM at hi
              rw [List.length_map, List.length_zip] at hi
              omega
end
theorem q_sd11 {α : Type} {x y d : α} : selAD [d] 1 1 false [x] [y] = [x, y, d] := by unfold selAD ordA; simp
end GD

/-! comprehensions with two clauses -/
namespace GD
open PySem PySem.Spec PyProof.Rows L2
def comp2E (vs : List Nat) (g : D → En → Option En) (c : EvT) (fw1 : EvW) (vs1 : List Nat) (g1 : D → En → Option En) (c1 : EvT) (e : EvE) : List D → List D → En → Option (List D × En)
  | [], acc, env => some (acc, env)
  | x :: xs, acc, env => (g x env).bind fun e1 => (c e1).bind fun p => if p.1 = true then
      (fw1 p.2).bind fun q => (compE vs1 g1 c1 e q.1 acc (wipeE q.2 vs1)).bind fun r => comp2E vs g c fw1 vs1 g1 c1 e xs r.1 (wipeE r.2 vs)
    else comp2E vs g c fw1 vs1 g1 c1 e xs acc (wipeE p.2 vs)
def eComp2 (vs : List Nat) (fw : EvW) (g : D → En → Option En) (c : EvT) (fw1 : EvW) (vs1 : List Nat) (g1 : D → En → Option En) (c1 : EvT) (e : EvE) : EvM := fun env => (fw env).bind fun p => (comp2E vs g c fw1 vs1 g1 c1 e p.1 [] (wipeE p.2 vs)).map fun q => (.l q.1, q.2)
section
variable {K : PySem.W.Frag} {te : TE} {fe : EvE} {tt tt1 : TT} {ft ft1 : EvT}
theorem im_comp2 {wi wi1 : TI} {fw fw1 : EvW} {js vs js1 vs1 : List Nat} {gg gg1 : TG} {ff ff1 : D → En → Option En} (hw : IW K wi fw) (hg : IG K js gg ff) (ht : IT K tt ft) (hw1 : IW K wi1 fw1) (hg1 : IG K js1 gg1 ff1) (ht1 : IT K tt1 ft1) (he : IE K te fe) (hj : ∀ j ∈ js, j ∈ vs) (hj1 : ∀ j ∈ js1, j ∈ vs1) (hv : ∀ j ∈ vs1, j ∈ vs) :
    IM K (tLc2 wi gg tt wi1 gg1 tt1 te vs vs1) (eComp2 vs fw ff ft fw1 vs1 ff1 ft1 fe) := by
  intro F T env σ H m env' S e Q k
  simp only [eComp2, Option.bind_eq_some_iff, Option.map_eq_some_iff] at e
  obtain ⟨⟨items, e1⟩, a1, ⟨ds, e2⟩, a2, a3⟩ := e
  obtain ⟨rfl, hee⟩ : m = .l ds ∧ e2 = env' := by cases a3; exact ⟨rfl, rfl⟩
  subst hee
  clear a3
  refine hw F T env σ H items e1 S a1 _ fun J H1 S1 s1 jo p np => ?_
  have np0 : H p = none := by
    cases h : H p with
    | none => rfl
    | some o => exact absurd np (s1.ext.live p (by rw [h]; simp))
  have nF : F.H0 p = none := S1.fresh0 np
  refine ⟨fun i mm H3 => ∃ e' acc dacc, StOk K F (fun a => T a ∨ a = p) H3 e' (wipe σ vs) ∧ (∀ (j : Nat) (s : Sl), e'[j]? = some (some s) → j ∉ vs) ∧ Ext (Wr e1 σ) H1 H3 ∧ (∀ a, Wr e' (wipe σ vs) a → Wr e1 σ a) ∧
      H3 p = some (.lst acc) ∧ RpAll K (Ow F (fun a => T a ∨ a = p) e' (wipe σ vs)) H3 acc dacc ∧ mm = items.length - i ∧ i ≤ items.length ∧ comp2E vs ff ft fw1 vs1 ff1 ft1 fe (items.drop i) dacc e' = some (ds, e2), ?_, ?_⟩
  · have S2 : StOk K F (fun a => T a ∨ a = p) (upd H1 p (.lst [])) e1 σ := S1.new np
    have hre : ∀ (i : Nat) (s : Sl), (wipeE e1 vs)[i]? = some (some s) → e1[i]? = some (some s) ∧ (wipe σ vs)[i]? = σ[i]? := fun i s h => ⟨(wipeE_some h).1, wipe_out (wipeE_some h).2⟩
    exact ⟨_, wipeE e1 vs, [], [], S2.re (by rw [wipeE_len, wipe_length]; exact S1.len) hre, fun j s h => (wipeE_some h).2, Ext.new np, wr_re hre, upd_same, .nil, rfl, Nat.zero_le _, by simpa using a2⟩
  · rintro i mm H3 ⟨e', acc, dacc, S', hw', x', wr', hp', ra', rfl, hi, hc⟩
    obtain ⟨j1, j2⟩ := jo (Ow F (fun a => T a ∨ a = p) e' (wipe σ vs)) H3 (fun a o q n z => by
        rcases z with z | (z | z) | z
        · exact n (.inl z)
        · exact n (.inr (.inl z))
        · subst z; rw [np] at q; cases q
        · exact n (.inr (.inr (wr' a z)))) (fun a o n q => x'.same a o q fun z => n (.inr (.inr z))) (fun a h => S'.olive h)
    by_cases hlt : i < items.length
    · have gi : items[i]? = some items[i] := List.getElem?_eq_getElem hlt
      obtain ⟨go, yl⟩ := j1 i _ gi
      rw [List.drop_eq_getElem_cons hlt] at hc
      simp only [comp2E, Option.bind_eq_some_iff] at hc
      obtain ⟨e3, b1, ⟨b, e4⟩, b2, b3⟩ := hc
      refine .inr ⟨go, fun H5 => ∃ e' acc dacc, StOk K F (fun a => T a ∨ a = p) H5 e' (wipe σ vs) ∧ (∀ (j : Nat) (s : Sl), e'[j]? = some (some s) → j ∉ vs) ∧ Ext (Wr e1 σ) H1 H5 ∧ (∀ a, Wr e' (wipe σ vs) a → Wr e1 σ a) ∧
        H5 p = some (.lst acc) ∧ RpAll K (Ow F (fun a => T a ∨ a = p) e' (wipe σ vs)) H5 acc dacc ∧ i + 1 ≤ items.length ∧ comp2E vs ff ft fw1 vs1 ff1 ft1 fe (items.drop (i + 1)) dacc e' = some (ds, e2), ?_, ?_⟩
      · rintro H5 ⟨e', acc, dacc, c1, c2, c3, c4, c5, c6, c7, c8⟩
        exact ⟨items.length - (i + 1), by omega, e', acc, dacc, c1, c2, c3, c4, c5, c6, rfl, c7, c8⟩
      intro x H4 hy
      obtain ⟨x2, rx⟩ := yl x H4 hy
      have S4 := S'.lay x2
      refine hg F _ e' (wipe σ vs) H4 x _ e3 S4 rx b1 _ fun σ5 S5 q5 l5 k5 n5 => ?_
      have hk5 : ∀ k, k ∉ vs → σ5[k]? = (wipe σ vs)[k]? := fun k hk => k5 k fun z => hk (hj k z)
      have wq : wipe σ5 vs = wipe σ vs := (wipe_eq l5 hk5).trans wipe_wipe
      have x4 : Ext (Wr e1 σ) H1 H4 := x'.trans x2 fun _ q => q.elim
      have w5 : ∀ a, Wr e3 σ5 a → Wr e1 σ a ∨ H4 a = none := fun a h => (q5.wr a h).imp (wr' a) id
      have w5' : ∀ a, Wr e3 σ5 a → Wr e1 σ a := fun a h => (w5 a h).elim id fun z => absurd z (S5.wlive h)
      refine ⟨wq, ht F _ e3 σ5 H4 b e4 S5 b2 _ fun H6 S6 s6 => ?_⟩
      have ra6 : RpAll K (Ow F (fun a => T a ∨ a = p) e4 σ5) H6 acc dacc := (ra'.stq ((Stp.lay x2).q.trans q5)).stp s6
      have hp4 : H4 p = some (.lst acc) := x2.same p _ hp' id
      have hp6 : H6 p = some (.lst acc) := s6.ext.same p _ hp4 (S5.tno p (.inr rfl))
      have x6 : Ext (Wr e1 σ) H1 H6 := x4.trans s6.ext fun a q => .inl (w5' a q)
      have w6 : ∀ a, Wr e4 σ5 a → Wr e1 σ a := fun a h => w5' a (s6.wr a h)
      -- back to the block's start
      have back : ∀ {e7 : En} {H7 : Hp} {acc7 : List V} {d7 : List D}, StOk K F (fun a => T a ∨ a = p) H7 e7 σ5 → (∀ a, Wr e7 σ5 a → Wr e1 σ a) → Ext (Wr e1 σ) H1 H7 → H7 p = some (.lst acc7) →
          RpAll K (Ow F (fun a => T a ∨ a = p) e7 σ5) H7 acc7 d7 → comp2E vs ff ft fw1 vs1 ff1 ft1 fe (items.drop (i + 1)) d7 (wipeE e7 vs) = some (ds, e2) →
          ∃ e' acc dacc, StOk K F (fun a => T a ∨ a = p) H7 e' (wipe σ vs) ∧ (∀ (j : Nat) (s : Sl), e'[j]? = some (some s) → j ∉ vs) ∧ Ext (Wr e1 σ) H1 H7 ∧ (∀ a, Wr e' (wipe σ vs) a → Wr e1 σ a) ∧
            H7 p = some (.lst acc) ∧ RpAll K (Ow F (fun a => T a ∨ a = p) e' (wipe σ vs)) H7 acc dacc ∧ i + 1 ≤ items.length ∧ comp2E vs ff ft fw1 vs1 ff1 ft1 fe (items.drop (i + 1)) dacc e' = some (ds, e2) := by
        intro e7 H7 acc7 d7 S7 w7 x7 hp7 ra7 c7
        have hre : ∀ (i : Nat) (s : Sl), (wipeE e7 vs)[i]? = some (some s) → e7[i]? = some (some s) ∧ (wipe σ vs)[i]? = σ5[i]? := fun i s h => ⟨(wipeE_some h).1, (hk5 i (wipeE_some h).2).symm⟩
        have wre := wr_re hre
        exact ⟨wipeE e7 vs, acc7, d7, S7.re (by rw [wipeE_len, wipe_length, S7.len, l5, wipe_length]) hre, fun j s h => (wipeE_some h).2, x7, fun a h => w7 a (wre a h), hp7,
          ra7.anti (fun a h => h.imp id (.imp id (wre a))), hlt, c7⟩
      cases b with
      | false =>
        simp only [Bool.false_eq_true, if_false] at b3 ⊢
        exact back S6 w6 x6 hp6 ra6 b3
      | true =>
        simp only [if_true, Option.bind_eq_some_iff] at b3 ⊢
        obtain ⟨⟨its, e5⟩, b4, ⟨dr, er⟩, b5, b6⟩ := b3
        refine hw1 F _ e4 σ5 H6 its e5 S6 b4 _ fun J1 H7 S7 s7 jo1 => ?_
        have w7 : ∀ a, Wr e5 σ5 a → Wr e1 σ a := fun a h => w6 a (s7.wr a h)
        have x7 : Ext (Wr e1 σ) H1 H7 := x6.trans s7.ext fun a q => .inl (w6 a q)
        have hp7 : H7 p = some (.lst acc) := s7.ext.same p _ hp6 (S6.tno p (.inr rfl))
        have ra7 := ra6.stp s7
        refine ⟨fun jj kk HH => ∃ e' acc dacc, StOk K F (fun a => T a ∨ a = p) HH e' (wipe σ5 vs1) ∧ (∀ (j : Nat) (s : Sl), e'[j]? = some (some s) → j ∉ vs1) ∧ Ext (Wr e1 σ) H1 HH ∧ Ext (fun a => Wr e5 σ5 a ∨ a = p) H7 HH ∧ (∀ a, Wr e' (wipe σ5 vs1) a → Wr e5 σ5 a) ∧
            HH p = some (.lst acc) ∧ RpAll K (Ow F (fun a => T a ∨ a = p) e' (wipe σ5 vs1)) HH acc dacc ∧ kk = its.length - jj ∧ jj ≤ its.length ∧ compE vs1 ff1 ft1 fe (its.drop jj) dacc e' = some (dr, er), ?_, ?_⟩
        · have hre : ∀ (i : Nat) (s : Sl), (wipeE e5 vs1)[i]? = some (some s) → e5[i]? = some (some s) ∧ (wipe σ5 vs1)[i]? = σ5[i]? := fun i s h => ⟨(wipeE_some h).1, wipe_out (wipeE_some h).2⟩
          exact ⟨_, wipeE e5 vs1, acc, dacc, S7.re (by rw [wipeE_len, wipe_length]; exact S7.len) hre, fun j s h => (wipeE_some h).2, x7, Ext.refl, wr_re hre, hp7, ra7.anti (fun a h => h.imp id (.imp id (wr_re hre a))), rfl, Nat.zero_le _, by simpa using b5⟩
        rintro jj kk H8 ⟨e8, acc8, dacc8, S8, hw8, x8, y8, wr8, hp8, ra8, rfl, hj8, hc8⟩
        have wr8' : ∀ a, Wr e8 (wipe σ5 vs1) a → Wr e1 σ a := fun a h => w7 a (wr8 a h)
        obtain ⟨k1, k2⟩ := jo1 (Ow F (fun a => T a ∨ a = p) e8 (wipe σ5 vs1)) H8 (fun a o q n z => by
            rcases z with z | z | z
            · exact n (.inl z)
            · exact n (.inr (.inl z))
            · exact n (.inr (.inr (wr8 a z)))) (fun a o n q => y8.same a o q fun z => by
            rcases z with z | z
            · exact n (.inr (.inr z))
            · exact n (.inr (.inl (.inr z)))) (fun a h => S8.olive h)
        by_cases hlt8 : jj < its.length
        · have gi8 : its[jj]? = some its[jj] := List.getElem?_eq_getElem hlt8
          obtain ⟨go8, yl8⟩ := k1 jj _ gi8
          rw [List.drop_eq_getElem_cons hlt8] at hc8
          simp only [compE, Option.bind_eq_some_iff] at hc8
          obtain ⟨f3, d1, ⟨bb, f4⟩, d2, d3⟩ := hc8
          refine .inr ⟨go8, fun HH => ∃ e' acc dacc, StOk K F (fun a => T a ∨ a = p) HH e' (wipe σ5 vs1) ∧ (∀ (j : Nat) (s : Sl), e'[j]? = some (some s) → j ∉ vs1) ∧ Ext (Wr e1 σ) H1 HH ∧ Ext (fun a => Wr e5 σ5 a ∨ a = p) H7 HH ∧ (∀ a, Wr e' (wipe σ5 vs1) a → Wr e5 σ5 a) ∧
            HH p = some (.lst acc) ∧ RpAll K (Ow F (fun a => T a ∨ a = p) e' (wipe σ5 vs1)) HH acc dacc ∧ jj + 1 ≤ its.length ∧ compE vs1 ff1 ft1 fe (its.drop (jj + 1)) dacc e' = some (dr, er), ?_, ?_⟩
          · rintro H9 ⟨e', acc, dacc, c1, c2, c3, c4, c5, c6, c7, c8, c9⟩
            exact ⟨its.length - (jj + 1), by omega, e', acc, dacc, c1, c2, c3, c4, c5, c6, c7, rfl, c8, c9⟩
          intro x9 H9 hy9
          obtain ⟨z2, rx9⟩ := yl8 x9 H9 hy9
          have S9 := S8.lay z2
          refine hg1 F _ e8 (wipe σ5 vs1) H9 x9 _ f3 S9 rx9 d1 _ fun σ9 S10 q10 l10 m10 n10 => ?_
          have hm10 : ∀ k, k ∉ vs1 → σ9[k]? = (wipe σ5 vs1)[k]? := fun k hk => m10 k fun z => hk (hj1 k z)
          have wq9 : wipe σ9 vs1 = wipe σ5 vs1 := (wipe_eq l10 hm10).trans wipe_wipe
          have x9' : Ext (Wr e1 σ) H1 H9 := x8.trans z2 fun _ q => q.elim
          have y9 : Ext (fun a => Wr e5 σ5 a ∨ a = p) H7 H9 := y8.trans z2 fun _ q => q.elim
          have u3 : ∀ a, Wr f3 σ9 a → Wr e5 σ5 a := fun a h => (q10.wr a h).elim (wr8 a) fun z => absurd z (S10.wlive h)
          have hp9 : H9 p = some (.lst acc8) := z2.same p _ hp8 id
          have ra9 : RpAll K (Ow F (fun a => T a ∨ a = p) f3 σ9) H9 acc8 dacc8 := ra8.stq ((Stp.lay z2).q.trans q10)
          refine ⟨wq9, ht1 F _ f3 σ9 H9 bb f4 S10 d2 _ fun H10 S11 s11 => ?_⟩
          have u4 : ∀ a, Wr f4 σ9 a → Wr e5 σ5 a := fun a h => u3 a (s11.wr a h)
          have x10 : Ext (Wr e1 σ) H1 H10 := x9'.trans s11.ext fun a q => .inl (w7 a (u3 a q))
          have y10 : Ext (fun a => Wr e5 σ5 a ∨ a = p) H7 H10 := y9.trans s11.ext fun a q => .inl (.inl (u3 a q))
          have hp10 : H10 p = some (.lst acc8) := s11.ext.same p _ hp9 (S10.tno p (.inr rfl))
          have ra10 := ra9.stp s11
          have back1 : ∀ {e7 : En} {HZ : Hp} {acc7 : List V} {d7 : List D}, StOk K F (fun a => T a ∨ a = p) HZ e7 σ9 → (∀ a, Wr e7 σ9 a → Wr e5 σ5 a) → Ext (Wr e1 σ) H1 HZ → Ext (fun a => Wr e5 σ5 a ∨ a = p) H7 HZ → HZ p = some (.lst acc7) →
              RpAll K (Ow F (fun a => T a ∨ a = p) e7 σ9) HZ acc7 d7 → compE vs1 ff1 ft1 fe (its.drop (jj + 1)) d7 (wipeE e7 vs1) = some (dr, er) →
              ∃ e' acc dacc, StOk K F (fun a => T a ∨ a = p) HZ e' (wipe σ5 vs1) ∧ (∀ (j : Nat) (s : Sl), e'[j]? = some (some s) → j ∉ vs1) ∧ Ext (Wr e1 σ) H1 HZ ∧ Ext (fun a => Wr e5 σ5 a ∨ a = p) H7 HZ ∧ (∀ a, Wr e' (wipe σ5 vs1) a → Wr e5 σ5 a) ∧
                HZ p = some (.lst acc) ∧ RpAll K (Ow F (fun a => T a ∨ a = p) e' (wipe σ5 vs1)) HZ acc dacc ∧ jj + 1 ≤ its.length ∧ compE vs1 ff1 ft1 fe (its.drop (jj + 1)) dacc e' = some (dr, er) := by
            intro e7 HZ acc7 d7 S7 w7 x7 y7 hp7 ra7 c7
            have hre : ∀ (i : Nat) (s : Sl), (wipeE e7 vs1)[i]? = some (some s) → e7[i]? = some (some s) ∧ (wipe σ5 vs1)[i]? = σ9[i]? := fun i s h => ⟨(wipeE_some h).1, (hm10 i (wipeE_some h).2).symm⟩
            have wre := wr_re hre
            exact ⟨wipeE e7 vs1, acc7, d7, S7.re (by rw [wipeE_len, wipe_length, S7.len, l10, wipe_length]) hre, fun j s h => (wipeE_some h).2, x7, y7, fun a h => w7 a (wre a h), hp7,
              ra7.anti (fun a h => h.imp id (.imp id (wre a))), hlt8, c7⟩
          cases bb with
          | false =>
            simp only [Bool.false_eq_true, if_false] at d3 ⊢
            exact back1 S11 u4 x10 y10 hp10 ra10 d3
          | true =>
            simp only [if_true, Option.bind_eq_some_iff] at d3 ⊢
            obtain ⟨⟨r, f7⟩, d4, dd, d5, d6⟩ := d3
            split at d6
            · rename_i hs
              refine he F _ f4 σ9 H10 r f7 S11 d4 _ fun y H11 S12 s12 ry => ?_
              have hp11 : H11 p = some (.lst acc8) := s12.ext.same p _ hp10 (S11.tno p (.inr rfl))
              have ra11 := ra10.stp s12
              have ry11 := rk_ok S12 ry d5
              refine ⟨acc8, hp11, by rw [ra11.length]; exact small_lt hs, ?_⟩
              have x11 : Ext (Wr e1 σ) H1 H11 := x10.trans s12.ext fun a q => .inl (w7 a (u4 a q))
              have y11 : Ext (fun a => Wr e5 σ5 a ∨ a = p) H7 H11 := y10.trans s12.ext fun a q => .inl (.inl (u4 a q))
              have lv : ∀ a, H11 a ≠ none → upd H11 p (.lst (acc8 ++ [y])) a ≠ none := fun a q => by
                by_cases z : a = p
                · subst z; rw [upd_same]; simp
                · rw [upd_ne z]; exact q
              have x12 : Ext (Wr e1 σ) H1 (upd H11 p (.lst (acc8 ++ [y]))) := ⟨fun a u q n => by
                  rw [upd_ne (ne_of_none q np)]; exact x11.same a u q n, fun a q => lv a (x11.live a q)⟩
              have y12 : Ext (fun a => Wr e5 σ5 a ∨ a = p) H7 (upd H11 p (.lst (acc8 ++ [y]))) := ⟨fun a u q n => by
                  rw [upd_ne (fun z => n (.inr z))]; exact y11.same a u q n, fun a q => lv a (y11.live a q)⟩
              have S13 : StOk K F (fun a => T a ∨ a = p) (upd H11 p (.lst (acc8 ++ [y]))) f7 σ9 := S12.updT (.inr rfl) nF
              have ra12 : RpAll K (Ow F (fun a => T a ∨ a = p) f7 σ9) (upd H11 p (.lst (acc8 ++ [y]))) (acc8 ++ [y]) (dacc8 ++ [dd]) := (ra11.append (.one ry11)).tr (fun _ _ _ n => n) fun a u n q => by
                rw [upd_ne (fun z => n (by subst z; exact .inr (.inl (.inr rfl))))]; exact q
              exact back1 S13 (fun a h => u4 a (s12.wr a h)) x12 y12 upd_same ra12 d6
            · cases d6
        · have ej : jj = its.length := by omega
          subst ej
          rw [List.drop_length] at hc8
          cases hc8
          refine .inl ⟨k2 _ (Nat.le_refl _), ?_⟩
          have hre : ∀ (i : Nat) (s : Sl), er[i]? = some (some s) → er[i]? = some (some s) ∧ σ5[i]? = (wipe σ5 vs1)[i]? := fun i s h => ⟨h, (wipe_out (hw8 i s h)).symm⟩
          have S9 : StOk K F (fun a => T a ∨ a = p) H8 er σ5 := S8.re (by rw [S8.len, wipe_length]) hre
          exact back S9 (fun a h => wr8' a (wr_re hre a h)) x8 hp8 (ra8.anti fun a h => h.imp id (.imp id (wr_re hre a))) b6
    · have ei : i = items.length := by omega
      subst ei
      rw [List.drop_length] at hc
      cases hc
      refine .inl ⟨j2 _ (Nat.le_refl _), ?_⟩
      have hre : ∀ (i : Nat) (s : Sl), e2[i]? = some (some s) → e2[i]? = some (some s) ∧ σ[i]? = (wipe σ vs)[i]? := fun i s h => ⟨h, (wipe_out (hw' i s h)).symm⟩
      have hre2 : ∀ (i : Nat) (s : Sl), e2[i]? = some (some s) → e2[i]? = some (some s) ∧ (wipe σ vs)[i]? = σ[i]? := fun i s h => ⟨h, (wipe_out (hw' i s h))⟩
      have S9 : StOk K F (fun a => T a ∨ a = p) H3 e2 σ := S'.re (by rw [S'.len, wipe_length]) hre
      refine k p H3 np0 S9 (s1.trans ⟨x', fun a h => wr' a (wr_re hre a h)⟩) ⟨acc, hp', ra'.anti fun a h => h.imp id (.imp id (wr_re hre a))⟩
end

section
variable {vs vs1 : List Nat} {fw fw1 : EvW} {tg tg1 : D → En → Option En} {ft ft1 : EvT} {fe : EvE} {env e : En} {ds acc its : List D} {d : D}
def c2R (vs : List Nat) (tg : D → En → Option En) (ft : EvT) (fw1 : EvW) (vs1 : List Nat) (tg1 : D → En → Option En) (ft1 : EvT) (fe : EvE) : Option (List D × En) → Option (Mu × En)
  | some (ds, e) => cmR2 (comp2E vs tg ft fw1 vs1 tg1 ft1 fe ds [] (wipeE e vs))
  | none => none
def c2X (vs : List Nat) (tg : D → En → Option En) (ft : EvT) (fw1 : EvW) (vs1 : List Nat) (tg1 : D → En → Option En) (ft1 : EvT) (fe : EvE) (ds : List D) : Option (List D × En) → Option (List D × En)
  | some (acc, e) => comp2E vs tg ft fw1 vs1 tg1 ft1 fe ds acc (wipeE e vs)
  | none => none
def c2W (vs : List Nat) (tg : D → En → Option En) (ft : EvT) (fw1 : EvW) (vs1 : List Nat) (tg1 : D → En → Option En) (ft1 : EvT) (fe : EvE) (ds acc : List D) : Option (List D × En) → Option (List D × En)
  | some (its, e) => c2X vs tg ft fw1 vs1 tg1 ft1 fe ds (compE vs1 tg1 ft1 fe its acc (wipeE e vs1))
  | none => none
def c2T (vs : List Nat) (tg : D → En → Option En) (ft : EvT) (fw1 : EvW) (vs1 : List Nat) (tg1 : D → En → Option En) (ft1 : EvT) (fe : EvE) (ds acc : List D) : Option (Bool × En) → Option (List D × En)
  | some (true, e) => c2W vs tg ft fw1 vs1 tg1 ft1 fe ds acc (fw1 e)
  | some (false, e) => comp2E vs tg ft fw1 vs1 tg1 ft1 fe ds acc (wipeE e vs)
  | none => none
def c2G (vs : List Nat) (tg : D → En → Option En) (ft : EvT) (fw1 : EvW) (vs1 : List Nat) (tg1 : D → En → Option En) (ft1 : EvT) (fe : EvE) (ds acc : List D) : Option En → Option (List D × En)
  | some e => c2T vs tg ft fw1 vs1 tg1 ft1 fe ds acc (ft e)
  | none => none
theorem q_comp2c : eComp2 vs fw tg ft fw1 vs1 tg1 ft1 fe env = c2R vs tg ft fw1 vs1 tg1 ft1 fe (fw env) := by
  unfold eComp2; cases h : fw env with
  | none => rfl
  | some p => simp only [Option.bind_some, c2R]; cases comp2E vs tg ft fw1 vs1 tg1 ft1 fe p.1 [] (wipeE p.2 vs) <;> rfl
theorem q_c21 : c2R vs tg ft fw1 vs1 tg1 ft1 fe (some (ds, e)) = cmR2 (comp2E vs tg ft fw1 vs1 tg1 ft1 fe ds [] (wipeE e vs)) := rfl
theorem q_c20 : comp2E vs tg ft fw1 vs1 tg1 ft1 fe [] acc env = some (acc, env) := rfl
theorem q_c2c : comp2E vs tg ft fw1 vs1 tg1 ft1 fe (d :: ds) acc env = c2G vs tg ft fw1 vs1 tg1 ft1 fe ds acc (tg d env) := by
  rw [comp2E]
  cases tg d env with
  | none => rfl
  | some e1 =>
    simp only [Option.bind_some, c2G]
    cases ft e1 with
    | none => rfl
    | some p =>
      obtain ⟨b, e2⟩ := p
      cases b with
      | false => rfl
      | true =>
        simp only [Option.bind_some, c2T, if_true]
        cases fw1 e2 with
        | none => rfl
        | some q =>
          simp only [Option.bind_some, c2W]
          cases compE vs1 tg1 ft1 fe q.1 acc (wipeE q.2 vs1) <;> rfl
theorem q_c2g : c2G vs tg ft fw1 vs1 tg1 ft1 fe ds acc (some e) = c2T vs tg ft fw1 vs1 tg1 ft1 fe ds acc (ft e) := rfl
theorem q_c2t : c2T vs tg ft fw1 vs1 tg1 ft1 fe ds acc (some (true, e)) = c2W vs tg ft fw1 vs1 tg1 ft1 fe ds acc (fw1 e) := rfl
theorem q_c2f : c2T vs tg ft fw1 vs1 tg1 ft1 fe ds acc (some (false, e)) = comp2E vs tg ft fw1 vs1 tg1 ft1 fe ds acc (wipeE e vs) := rfl
theorem q_c2w : c2W vs tg ft fw1 vs1 tg1 ft1 fe ds acc (some (its, e)) = c2X vs tg ft fw1 vs1 tg1 ft1 fe ds (compE vs1 tg1 ft1 fe its acc (wipeE e vs1)) := rfl
theorem q_c2x : c2X vs tg ft fw1 vs1 tg1 ft1 fe ds (some (acc, e)) = comp2E vs tg ft fw1 vs1 tg1 ft1 fe ds acc (wipeE e vs) := rfl
end
end GD

/-! the sum of a list of ints -/
namespace GD
open PySem PySem.Spec PyProof.Rows L2
section
variable {K : PySem.W.Frag}
def cSum : List D → Option D
  | [.list ds] => (intsOf ds).map fun ns => .int ns.sum
  | _ => none
theorem cd_sum : CaD K (rSum K) cSum := by
  intro O H xs ds z hO l hz Q q
  match ds, hz, l with
  | [.list es], hz, l =>
    simp only [cSum, Option.map_eq_some_iff] at hz
    obtain ⟨ns, h1, rfl⟩ := hz
    obtain ⟨v, rfl, a, ys, rfl, s1, r1⟩ := LvAll.one l
    have ex := intsOf_ok r1 h1
    subst ex
    exact ⟨a, ns, rfl, .inl (.inl s1), q _ H Ext.refl (.int _)⟩
theorem c_sum {ns : List Int} : cSum [.list (ns.map .int)] = some (.int ns.sum) := by
  simp only [cSum, intsOf_map, Option.map_some]
end
end GD

/-! extend with a tuple; divmod -/
namespace GD
open PySem PySem.Spec PyProof.Rows L2
theorem ext_meets (l : Addr) (its : Array Value) (n : Nat) (b : Addr) (its2 : Array Value) (n2 : Nat) (dc : Option Addr) (sl : Array (Option Value)) (h0 : ¬(!its.isEmpty && Builtin.List.listTooLong (its.size + its2.size)) = true) (h1 : its.size ≤ sizeLine) (h2 : (its ++ its2).size ≤ sizeLine + 1) :
    Meets (Builtin.«list.extend» ⟨[.ref l, .ref b], []⟩) (fun _ R s => s.heap.get? l = some { cls := .type "list", data := .seq its n } ∧ s.heap.get? b = some { cls := .type "tuple", dict := dc, data := .seq its2 n2, slots := sl } ∧
      R (.ok (.ret .none)) { s with heap := s.heap.update l (Obj.mapSeq fun x => x ++ its2) }) :=
  .of_wp fun prog w A R s h => by
    obtain ⟨hp, gs, dr, tk, os⟩ := s
    obtain ⟨hl, hb, h⟩ := h
    have f2 := AutoSeq1.sub_tuple_tuple
    have f3 := AutoSeq1.sub_list_list
    have f4 := AutoSeq1.sub_tuple_list
    have f5 := AutoSeq1.sub_list_tuple
    wp_walk using (wpAny_updateSeq hl rfl (hz := h1) (_hz' := h2)), AutoSeq1.wpAny_loadPart' hl, AutoSeq1.wpAny_loadPart' hb
    exact ⟨_, rfl, h⟩
section
variable {K : PySem.W.Frag}
def rExtT (K : PySem.W.Frag) : V → List V → Hp → VK → Prop := fun x vs H Q => ∃ l b xs zs, x = .ref l ∧ vs = [.ref b] ∧ H l = some (.lst xs) ∧ SqT K H b zs ∧ xs.length + zs.length ≤ sizeLine ∧ Q .non (upd H l (.lst (xs ++ zs)))
theorem mt_extT {X : Cx} : MtM X "list.extend" (rExtT X.K) := by
  intro pins s σ H x vs v us Q I rx rv h
  obtain ⟨l, b, xs, zs, rfl, rfl, hx, hz, hn, q⟩ := h
  cases rx
  obtain ⟨u, rfl, ru⟩ := rv.one
  cases ru
  obtain ⟨z, its, n, r, el, e⟩ := I.lstM hx
  obtain ⟨its2, r2, ⟨o, e2, hc, n2, hd⟩, z2⟩ := I.tuple hz
  obtain ⟨cl, dc, da, sl⟩ := o
  cases hc
  cases hd
  have el2 := r2.length
  have lg : ¬ (!its.toArray.isEmpty && Builtin.List.listTooLong (its.toArray.size + its2.toArray.size)) = true := by
    rw [notLongL (by rw [List.size_toArray, List.size_toArray]; omega), Bool.and_false]
    decide
  refine call_meets PySem.F.slot_list_extend ⟨_, e, rfl⟩ PySem.F.entry_list_extend (PySem.F.args_list_extend_2 _ _) (ext_meets l its.toArray n b its2.toArray n2 dc sl lg (by simp; omega) (by simp; omega)) ⟨e, e2, ?_⟩
  exact ⟨.non, _, I.lset (its' := its ++ its2) hx e (by simp) (r.append r2) (by rw [List.length_append]; omega), rfl, q⟩
def gExtT : Mu → List D → Option (Mu × D)
  | .l ds, [.tuple es] => if small (ds.length + es.length) = true then some (.l (ds ++ es), .none) else none
  | _, _ => none
theorem md_extT : MtD K "list" (rExtT K) gExtT := by
  intro O H a m vs ds m' z ha mu r hz Q q
  match m, ds, hz, r with
  | .l ds, [.tuple es], hz, .cons (.tup c hr) .nil =>
    simp only [gExtT] at hz
    split at hz
    · rename_i hs
      cases hz
      obtain ⟨xs, e, rr⟩ := mu
      have hs' := small_le hs
      have kp : ∀ (l : List V) b u, ¬ O b → H b = some u → upd H a (.lst l) b = some u := fun l b u n q => by rw [upd_ne (fun z => n (by subst z; exact ha))]; exact q
      exact ⟨a, _, xs, _, rfl, rfl, e, c.imp (·.1) id, by rw [rr.length, hr.length]; exact hs', q _ _ ⟨_, upd_same, (rr.append hr).tr (fun _ _ _ n => n) (kp _)⟩ .non⟩
    · cases hz
theorem c_extT {ds es : List D} (h : ds.length + es.length ≤ 1000000) : gExtT (.l ds) [.tuple es] = some (.l (ds ++ es), .none) := if_pos (decide_eq_true h)
def cDivm : List D → Option D
  | [.int i, .int j] => if decide (0 < j ∧ j < 1073741824) = true then some (.tuple [.int (i / j), .int (i % j)]) else none
  | _ => none
theorem cd_divm : CaD K (fun xs H Q => ∃ i j, xs = [.int i, .int j] ∧ CDiv i j ∧ ∀ p, H p = none → Q (.ref p) (upd H p (.tup [.int (i / j), .int (i % j)]))) cDivm := by
  intro O H xs ds z hO l hz Q q
  match ds, hz, l with
  | [.int i, .int j], hz, l =>
    simp only [cDivm] at hz
    split at hz
    · rename_i h
      cases hz
      obtain ⟨v, w, rfl, h1, h2⟩ := LvAll.two l
      cases Rp.sc h1
      cases Rp.sc h2
      exact ⟨i, j, rfl, (by have := of_decide_eq_true h; exact ⟨this.1, this.2⟩), fun p np => q _ _ (ext_new np) (new_tup hO np (.cons (.int _) (.cons (.int _) .nil)))⟩
    · cases hz
theorem c_divm {i j : Int} (h : 0 < j) (h2 : j < 1073741824) : cDivm [.int i, .int j] = some (.tuple [.int (i / j), .int (i % j)]) := if_pos (decide_eq_true ⟨h, h2⟩)
end
end GD

/-! repr of long data: what is asked is the length of what is shown -/
namespace GD
open PySem PySem.Spec PyProof.Rows L2
def okShowB (d : D) : Bool := d.canLay0 && decide (d.depth ≤ 60) && d.showable && decide (d.shown.length ≤ 16777216)
section
variable {K : PySem.W.Frag}
def rRepr4 (K : PySem.W.Frag) : List V → Hp → VK → Prop := fun xs H Q => ∃ x d, xs = [x] ∧ Dp K H x d ∧ okShowB d = true ∧ Q (.str d.shown) H
theorem call_repr4 {X : Cx} (hg : X.A.guards = some []) (hu : X.A.units + 64 < cLine) : CallR X (.builtin "repr") (rRepr4 X.K) := by
  intro pins s σ H xs us Q I rr h
  obtain ⟨x, d, rfl, hd, ok, q⟩ := h
  cases rr with
  | @cons _ u _ _ rx rt =>
    cases rt
    simp only [okShowB, Bool.and_eq_true, decide_eq_true_eq] at ok
    obtain ⟨⟨⟨o1, o2⟩, o3⟩, o4⟩ := ok
    have nd := PyData.hasDict_of_canLay d o1
    have hz : d.shown.length ≤ sizeLine := Nat.le_trans o4 (by decide)
    obtain ⟨as, r⟩ := Dp.reads I d x u hd rx
    cases hd with
    | non => cases rx; exact PySem.P.repr_of_none ⟨.str _, H, I.tok _, ⟨_, rfl⟩, q⟩
    | bl b => cases rx; exact PySem.P.repr_of_bool ⟨.str _, H, I.tok _, ⟨_, rfl⟩, by cases b <;> exact q⟩
    | int i =>
      obtain ⟨t, rfl⟩ := rx
      exact PySem.P.repr_of_int (by simpa [PyData.showable] using o3) ⟨.str _, H, I.tok _, ⟨_, rfl⟩, q⟩
    | str y =>
      obtain ⟨t, rfl⟩ := rx
      exact PySem.P.repr_of_str ⟨.str _, H, I.tok _, ⟨_, rfl⟩, q⟩ hz
    | lst hs ha =>
      cases rx
      exact repr_of_reads' r o3 (fun h => by rw [nd] at h; cases h) hg (by omega) (fun _ _ e => e) (fun h' t tk hk => ⟨.str _, H, I.kept (t' := tk) hk, ⟨t, rfl⟩, q⟩) hz
    | tup hs ha =>
      cases rx
      exact repr_of_reads' r o3 (fun h => by rw [nd] at h; cases h) hg (by omega) (fun _ _ e => e) (fun h' t tk hk => ⟨.str _, H, I.kept (t' := tk) hk, ⟨t, rfl⟩, q⟩) hz
def cRepr4 : List D → Option D
  | [d] => if okShowB d = true then some (.str d.shown) else none
  | _ => none
theorem cd_repr4 : CaD K (rRepr4 K) cRepr4 := by
  intro O H xs ds z hO l hz Q q
  match ds, hz, l with
  | [d], hz, l =>
    simp only [cRepr4] at hz
    split at hz
    · rename_i hs
      cases hz
      obtain ⟨v, rfl, h⟩ := LvAll.one l
      have hs' := hs
      simp only [okShowB, Bool.and_eq_true] at hs'
      exact ⟨v, d, rfl, h.dp (PyData.hasDict_of_canLay d hs'.1.1.1), hs, q _ H Ext.refl (.str _)⟩
    · cases hz
theorem c_repr4 {d : D} (h : okShowB d = true) : cRepr4 [d] = some (.str d.shown) := if_pos h
theorem okShowB_of {d : D} (h : okShow d = true) : okShowB d = true := by
  simp only [okShow, Bool.and_eq_true, decide_eq_true_eq] at h
  obtain ⟨⟨⟨⟨o1, o2⟩, o3⟩, o4⟩, o5⟩ := h
  have h1 := PyData.shown_le_bulk 200 (by decide) d o4
  have h2 : (200 + 2) * d.bulk ≤ 202 * 60000 := Nat.mul_le_mul_left _ o5
  unfold okShowB
  rw [o1, o3, decide_eq_true o2, decide_eq_true (show d.shown.length ≤ 16777216 by omega)]
  rfl
end
end GD

/-! set of a list of ints, and sorted behind it -/
namespace GD
open PySem PySem.Spec PyProof.Rows L2
abbrev nsetO (w : World) : Obj := { cls := .type "set", dict := none, data := .set #[] 0 (.fresh 0 0 (!w.params.followText "set-order")) }
section
variable {P : Program} {w : World} {A : Around} {E : Value → Shared → Prop} {s : Shared}
set_option maxHeartbeats 4000000 in
/-- set(l) of a list, where what the gathering loop leaves at the new set is `Gd` -/
theorem set_of_lst {l : Addr} {its : Array Value} {Gd : Heap → Prop} {Q : Value → Shared → Prop} (hh : A.handled = none) (hl : s.heap.IsList l its)
    (hU : ∀ (A' : Around) (R : Result → Shared → Prop) (s1 : Shared) (I : Addr), A'.in1.handled = none → l ≠ I → s.heap.objs.size ∉ [I, l] → s1.heap.IsListIter I l 0 ∧ s1.heap.IsList l its → s1.heap.get? s.heap.objs.size = some (nsetO w) →
      (∀ s', Moved [s.heap.objs.size, I] (fun a b => b = a) s1 s' → Gd s'.heap → R (.ok (.ret .none)) s') → codeAny (model P w) A' (.builtin "set.update.loop" ⟨[.ref s.heap.objs.size, .ref I], []⟩) R s1)
    (hQ : ∀ (h' : Heap) (tk : Nat), Gd h' → (∀ b o, s.heap.get? b = some o → h'.get? b = some o) → Q (.ref s.heap.objs.size) { s with heap := h', toks := tk }) :
    wpAny (model P w) A (call (.type "set") [.ref l]) Q E s := by
  obtain ⟨cc, tl, hmro⟩ := F.called_set.mro; have hmade := F.called_set.made; have hsub := F.called_set.sub
  refine wpAny_call (codeAny_of_tree ?_)
  show wpAny (model P w) _ (callAny (.type "set") _) _ _ s
  refine wpAny_pure ⟨Code.quiet_builtin _ (by decide +kernel), codeAny_builtin F.entry_type_call (?_)⟩
  rw [Around.under_plain (weight_type_call_type "set" [.ref l] []) (by rfl)]
  have k1 := F.called_set.notType; have k2 := F.called_set.canCreate; have kc := F.typeCall_set_1 (.ref l)
  repeat (any_goals (first | assumption | wp_step))
  refine codeAny_mono (code_set_led1 (.ref l) (E := E) (Q₁ := fun ob z => ob = .ref s.heap.objs.size ∧ z = { s with heap := s.heap.push (nsetO w) }) ⟨rfl, rfl⟩) fun res z hz => ?_
  cases res with
  | error e => exact hz
  | ok fl => cases fl with
    | ret ob =>
      obtain ⟨rfl, rfl⟩ := hz
      have gS : (s.heap.push (nsetO w)).get? s.heap.objs.size = some (nsetO w) := Heap.get?_push_size _ rfl
      have tS : Shared.TypeIs { s with heap := s.heap.push (nsetO w) } (.ref s.heap.objs.size) "set" := ⟨_, gS, rfl⟩
      have il := F.called_set.init.lookup; have ib := F.called_set.init.bind (.ref s.heap.objs.size)
      repeat (any_goals (first | assumption | wp_step))
      refine codeAny_mono (codeAny_call_builtin (R := wants (fun r z2 => r = .none ∧ ∃ h' tk, z2 = { s with heap := h', toks := tk } ∧ Gd h' ∧ ∀ b o, s.heap.get? b = some o → h'.get? b = some o) E)
        F.called_set.init.plain F.entry_set_init (check_set_init_1 tS ?_)) fun res2 z2 hz2 => ?_
      · have hl' := hl
        obtain ⟨ol, gol, hcl, nl, hdl⟩ := hl'
        obtain ⟨ocl, odi, oda, osl⟩ := ol
        simp only at hcl hdl
        subst hcl hdl
        have gol' : (s.heap.push (nsetO w)).get? l = some { cls := .type "list", dict := odi, data := .seq its nl, slots := osl } := Heap.get?_push_of_some _ gol
        have n1 := F.sub_list_set; have n2 := F.sub_list_frozenset
        have n3 : (Value.type "list" == Value.type "dict") = false := by decide
        have hl1 : (s.heap.push (nsetO w)).IsList l its := ⟨_, gol', rfl, nl, rfl⟩
        unfold Builtin.«set.__init__» noKeywords Builtin.Frozenset.updateFrom
        generalize hpi : pyIter = PI
        wp_walk
        subst hpi
        refine wpAny_pyIter_list (hQ := ?_) hl1; refine wpAny_bind (wpAny_runValue ?_)
        have ls : l < s.heap.objs.size := Heap.lt_size gol
        have hI : (s.heap.push (nsetO w)).objs.size = s.heap.objs.size + 1 := Heap.size_push ..
        refine hU _ _ _ _ (by simp [hh]) (by show l ≠ (s.heap.push (nsetO w)).objs.size; rw [hI]; exact Nat.ne_of_lt (Nat.lt_succ_of_lt ls)) (by
          show s.heap.objs.size ∉ [(s.heap.push (nsetO w)).objs.size, l]
          rw [hI]
          simp only [List.mem_cons, List.not_mem_nil, or_false, not_or]
          exact ⟨Nat.ne_of_lt (Nat.lt_succ_self _), Nat.ne_of_gt ls⟩) ⟨⟨_, Heap.get?_push_size _ rfl, rfl, rfl⟩, hl1.push _⟩ (Heap.get?_push_of_some _ gS) fun s' mv gd => ?_
        obtain ⟨h', g2, d2, tk', os'⟩ := s'
        have eg : g2 = s.gens := mv.gens; have ed : d2 = s.drawn := mv.drawn; have eo : os' = s.os := mv.os
        subst eg ed eo
        show wpAny (model P w) _ _ _ _ _
        refine wpAny_pure ?_
        show wpAny (model P w) _ (ret Value.none) _ _ _
        refine wpAny_pure ⟨rfl, h', tk', rfl, gd, fun b o e => mv.heap b o ?_ (Heap.get?_push_of_some _ (Heap.get?_push_of_some _ e))⟩
        have lb : b < s.heap.objs.size := Heap.lt_size e
        show b ∉ [s.heap.objs.size, (s.heap.push (nsetO w)).objs.size]
        rw [hI]
        simp only [List.mem_cons, List.not_mem_nil, or_false, not_or]
        exact ⟨Nat.ne_of_lt lb, Nat.ne_of_lt (Nat.lt_succ_of_lt lb)⟩
      · cases res2 with
        | error e => exact hz2
        | ok fl2 => cases fl2 with
          | ret r =>
            obtain ⟨rfl, h', tk, rfl, gd, kp⟩ := hz2
            repeat (any_goals (first | assumption | wp_step))
            exact hQ _ _ gd kp
          | _ => exact hz2.elim
    | _ => exact hz.elim
theorem set_of_ints {l : Addr} {its : Array Value} (ns : List Int) {Q : Value → Shared → Prop} (hh : A.handled = none) (hl : s.heap.IsList l its) (hi : IntsAre its.toList ns) (hb : ns.length + 1 < scanBound)
    (hQ : ∀ (h' : Heap) (tk c : Nat), SetR w h' s.heap.objs.size (fun j => decide (j ∈ ns)) c → c ≤ ns.length → (∀ b o, s.heap.get? b = some o → h'.get? b = some o) → Q (.ref s.heap.objs.size) { s with heap := h', toks := tk }) :
    wpAny (model P w) A (call (.type "set") [.ref l]) Q E s := by
  have hz : its.size = ns.length := by
    have := IntsAre.length hi
    rwa [Array.length_toList] at this
  refine set_of_lst (Gd := fun h => ∃ c, SetR w h s.heap.objs.size (fun j => decide (j ∈ ns)) c ∧ c ≤ ns.length) hh hl (fun A' R s1 I hA hlI hS hst hset hR => ?_) fun h' tk ⟨c, hc, hc2⟩ kp => hQ h' tk c hc hc2 kp
  refine set_update_ints ((Walks.list hA I l hlI its).toS) s.heap.objs.size hS ns hz hb (fun i v hv => ?_) (its.size - 0) 0 s1 rfl (Nat.zero_le _) hst ⟨0, Nat.le_refl 0, setR_new_at hset⟩ fun s' c mv hcn hSr => hR s' mv ⟨c, hSr, hz ▸ hcn⟩
  have hlt : i < ns.length := by
    rw [← hz]
    exact (Array.getElem?_eq_some_iff.mp hv).1
  obtain ⟨t, e⟩ := PyProof.Rows.IntsAre.int_at hi i v (by rw [Array.getElem?_toList]; exact hv)
  refine ⟨ns[i], t, List.getElem?_eq_getElem hlt, ?_⟩
  rw [e, List.getD_eq_getElem?_getD, List.getElem?_eq_getElem hlt]
  rfl
end
end GD

/-! sorted(set(l)) of a list of ints, as one word -/
namespace GD
open PySem PySem.Spec PyProof.Rows L2
section
variable {X : Cx}
def rSetL (K : PySem.W.Frag) (w : World) : List V → Hp → VK → Prop := fun vs H Q => ∃ (a : Addr) (ns : List Int), vs = [V.ref a] ∧ SqL K H a (ns.map V.int) ∧ ns.length ≤ 1000 ∧
  ∀ (p : Addr) (c : Nat), H p = none → c ≤ ns.length → Q (.ref p) (upd H p (SetO w p (fun j => decide (j ∈ ns)) c))
theorem cr_setL (hc : X.calm = true) : CallR X (.type "set") (rSetL X.K X.w) := by
  intro pins s σ H vs us Q I r h
  obtain ⟨a, ns, rfl, hS, hn, q⟩ := h
  rw [Vals.ref1 r]
  obtain ⟨its, rv, il, hz⟩ := I.list hS
  obtain ⟨o, n, ho, hcl, _, hda⟩ := il
  refine set_of_ints ns (I.ok.hd hc) ⟨o, ho, hcl, n, hda⟩ (ints_of_vals rv) (by unfold scanBound; omega) fun h' tk c R hcn kp => ?_
  exact ⟨.ref s.heap.objs.size, _, I.laid (t' := tk) kp (Nat.le_refl _) (setO_new R), rfl, q _ c (I.hok.fresh (Nat.le_refl _)) hcn⟩
def rSS (K : PySem.W.Frag) (w : World) : List V → Hp → VK → Prop := fun vs H Q => rSetL K w vs H fun v H1 => rSortedSet w [v] H1 Q
theorem pe_sset {e : Expr} {t : TA} {p1 p2 p3 p4 : Pos} (hc : X.calm = true) (hg : Gl X "sorted") (hm : X.mg "sorted" = none) (hg2 : Gl X "set") (hm2 : X.mg "set" = none) (ha : PA X [e] t)
    (he : starEach [e] X.env = (false, eval e X.env) :: starEach [] X.env := by rfl) (hpl : (backTo p3 (starEach ([] : List Expr) X.env)).any (·.1) = false := by rfl)
    (he2 : starEach [.Call (.Name "set" p2) [e] [] p3] X.env = (false, eval (.Call (.Name "set" p2) [e] [] p3) X.env) :: starEach [] X.env := by rfl) (hpl2 : (backTo p4 (starEach ([] : List Expr) X.env)).any (·.1) = false := by rfl) :
    PE X (.Call (.Name "sorted" p1) [.Call (.Name "set" p2) [e] [] p3] [] p4) (tCB (rSS X.K X.w) t) :=
  ⟨fun pins s σ H Q I h => (pe_callB (cr_sortedSet hc) hg hm boot_sorted (pa_cons (pe_callTy (cr_setL hc) hg2 hm2 boot_set ha (he := he) (hpl := hpl)) pa_nil) (he := he2) (hpl := hpl2)).run pins s σ H Q I h⟩
/-! what comes out -/
def insU (k : Int) : List Int → List Int
  | [] => [k]
  | x :: l => if k < x then k :: x :: l else if k = x then x :: l else x :: insU k l
def sortU : List Int → List Int
  | [] => []
  | k :: l => insU k (sortU l)
theorem mem_insU (k j : Int) : ∀ l, j ∈ insU k l ↔ j = k ∨ j ∈ l
  | [] => by simp [insU]
  | x :: l => by
    unfold insU
    split
    · simp
    split
    · rename_i h; subst h; simp
    · rw [List.mem_cons, mem_insU k j l, List.mem_cons]
      exact ⟨fun h => h.elim (fun e => .inr (.inl e)) fun h => h.elim .inl fun h => .inr (.inr h), fun h => h.elim (fun e => .inr (.inl e)) fun h => h.elim .inl fun h => .inr (.inr h)⟩
theorem mem_sortU (j : Int) : ∀ l, j ∈ sortU l ↔ j ∈ l
  | [] => by simp [sortU]
  | k :: l => by rw [sortU, mem_insU, mem_sortU j l, List.mem_cons]
theorem insU_lt (k : Int) : ∀ l : List Int, l.Pairwise (· < ·) → (insU k l).Pairwise (· < ·)
  | [], _ => by simp [insU]
  | x :: l, h => by
    obtain ⟨h1, h2⟩ := List.pairwise_cons.mp h
    unfold insU
    split
    · rename_i c
      refine List.pairwise_cons.mpr ⟨fun y hy => ?_, h⟩
      rcases List.mem_cons.mp hy with e | hy
      · omega
      · have := h1 y hy; omega
    split
    · exact h
    · refine List.pairwise_cons.mpr ⟨fun y hy => ?_, insU_lt k l h2⟩
      rcases (mem_insU k y l).mp hy with e | hy
      · omega
      · exact h1 y hy
theorem sortU_lt : ∀ l : List Int, (sortU l).Pairwise (· < ·)
  | [] => List.Pairwise.nil
  | k :: l => insU_lt k _ (sortU_lt l)
theorem lt_uniq : ∀ l r : List Int, l.Pairwise (· < ·) → r.Pairwise (· < ·) → (∀ k, k ∈ l ↔ k ∈ r) → l = r
  | [], [], _, _, _ => rfl
  | [], y :: r, _, _, h => absurd ((h y).mpr (List.mem_cons_self ..)) (by simp)
  | x :: l, [], _, _, h => absurd ((h x).mp (List.mem_cons_self ..)) (by simp)
  | x :: l, y :: r, hl, hr, h => by
    obtain ⟨a1, a2⟩ := List.pairwise_cons.mp hl
    obtain ⟨b1, b2⟩ := List.pairwise_cons.mp hr
    have e : x = y := by
      rcases List.mem_cons.mp ((h x).mp (List.mem_cons_self ..)) with e | hx
      · exact e
      · rcases List.mem_cons.mp ((h y).mpr (List.mem_cons_self ..)) with e | hy
        · exact e.symm
        · have := a1 y hy; have := b1 x hx; omega
    subst e
    rw [lt_uniq l r a2 b2 fun k => ⟨fun hk => ((List.mem_cons.mp ((h k).mp (List.mem_cons_of_mem _ hk))).resolve_left fun e => by have := a1 k hk; omega), fun hk => ((List.mem_cons.mp ((h k).mpr (List.mem_cons_of_mem _ hk))).resolve_left fun e => by have := b1 k hk; omega)⟩]
variable {K : PySem.W.Frag} {w : World}
theorem rp_ints {O : Addr → Prop} {H : Hp} : ∀ ns : List Int, RpAll K O H (ns.map V.int) (ns.map PyData.int)
  | [] => .nil
  | n :: ns => .cons (.int n) (rp_ints ns)
def cSSet : List D → Option Mu
  | [.list ds] => if decide (ds.length < 64) = true then (intsOf ds).map fun ns => .l ((sortU ns).map .int) else none
  | _ => none
theorem cm_sset : CaM K (rSS K w) cSSet := by
  intro O H xs ds z hO l hz Q q
  match ds, hz, l with
  | [.list es], hz, l =>
    simp only [cSSet] at hz
    split at hz
    · rename_i hlen
      have hlen := of_decide_eq_true hlen
      simp only [Option.map_eq_some_iff] at hz
      obtain ⟨ns, h1, rfl⟩ := hz
      obtain ⟨v, rfl, a, ys, rfl, s1, r1⟩ := LvAll.one l
      have ex := intsOf_ok r1 h1
      subst ex
      have hnl : ns.length < 64 := by have := r1.length; rw [List.length_map] at this; omega
      refine ⟨a, ns, rfl, .inl (.inl s1), by omega, fun p c np hcn => ⟨p, _, c, rfl, upd_same, by omega, fun ms b h1 h2 h3 nb => ?_⟩⟩
      have e : ms = sortU ns := lt_uniq _ _ h1 (sortU_lt ns) fun k => by rw [h2 k, decide_eq_true_eq, mem_sortU]
      subst e
      have nb0 : H b = none := by
        by_cases hb : b = p
        · subst hb; exact np
        · rw [upd_ne hb] at nb; exact nb
      exact q b _ nb0 ((ext_new np).trans (ext_new nb) fun _ h => h.elim) (new_lst nb (rp_ints _))
    · cases hz
theorem c_sset {ns : List Int} (h : ns.length < 64) : cSSet [.list (ns.map .int)] = some (.l ((sortU ns).map .int)) := by
  have hl : decide ((ns.map PyData.int).length < 64) = true := decide_eq_true (by rw [List.length_map]; exact h)
  simp only [cSSet, hl, if_true, intsOf_map, Option.map_some]
end
end GD

/-! sets of keys of one kind (texts): what is at an address, adding -/
namespace GD
open PySem PySem.Spec PyProof.Rows L2
section
variable {P : Program} {w : World} {K' : Type} [DecidableEq K'] (kd : PySem.KeyKind P w K') (kf : Int × Value → K')
def GoodG (e : Int × Value) : Prop := kd.is (kf e) e.2 = true ∧ e.1 = kd.hash (kf e) ∧ e.2.scannable = true
/-- the set at a has the keys ks, in some order -/
def SG (h : Heap) (a : Addr) (ks : List K') : Prop := ∃ (o : Obj) (ys : Array (Int × Value)) (ep : Nat) (tb : SetTable), h.get? a = some o ∧ o.ExactSet ∧ o.data = .set ys ep tb ∧ (∀ e ∈ ys.toList, GoodG kd kf e) ∧ (ys.toList.map kf).Perm ks ∧ ks.Nodup ∧
  ys.size < scanBound ∧ tb.fits ys.size = true ∧ Ris tb.place.toList ∧ (w.params.followText "set-order" = true ∨ tb.led = true)
variable {kd kf} {A : Around} {E : Value → Shared → Prop} {s : Shared} {a : Addr} {ks : List K'}
theorem SG.at {h h' : Heap} (R : SG kd kf h a ks) (kp : ∀ o, h.get? a = some o → h'.get? a = some o) : SG kd kf h' a ks := by
  obtain ⟨o, ys, ep, tb, ho, r⟩ := R
  exact ⟨o, ys, ep, tb, kp o ho, r⟩
theorem goodG_elems {l : List (Int × Value)} (g : ∀ e ∈ l, GoodG kd kf e) : ElemsOf kd l := fun e he => ⟨⟨kf e, (g e he).1, (g e he).2.1⟩, (g e he).2.2⟩
theorem sg_new {h : Heap} (ho : h.get? a = some (nsetO w)) : SG kd kf h a [] :=
  ⟨_, #[], 0, _, ho, ⟨rfl, rfl, rfl⟩, rfl, (fun e he => by simp at he), (by simp), List.nodup_nil, (by decide), (by rfl), List.Pairwise.nil, by
    show (w.params.followText "set-order" = true) ∨ (!w.params.followText "set-order") = true
    cases w.params.followText "set-order" <;> simp⟩
theorem sg_tail {gv : Bool → Sem Unit} (hgv : ∀ (b : Bool) (z : Shared) (R' : Unit → Shared → Prop), R' () z → wpAny (model P w) A (gv b) R' E z)
    {o : Obj} {ys : Array (Int × Value)} {ep : Nat} {tb : SetTable} (ho : s.heap.get? a = some o) (hex : o.ExactSet) (hd : o.data = .set ys ep tb)
    {zs : Array (Int × Value)} {tz : SetTable} {ls : List K'} (gz : ∀ e ∈ zs.toList, GoodG kd kf e) (pz : (zs.toList.map kf).Perm ls) (nz : ls.Nodup) (bz : zs.size < scanBound) (fz : tz.fits zs.size = true) (rz : Ris tz.place.toList) (lz : w.params.followText "set-order" = true ∨ tz.led = true) {dm : Bool} {R : Option Bool → Shared → Prop}
    (hR : ∀ h', Heap.SameBut a s.heap h' → SG kd kf h' a ls → R (some true) { s with heap := h' }) :
    wpAny (model P w) A (do
        storeSet a zs tz
        if (!dm && tz.tooFull) = true then do
            gv (relayAll tz zs (SetTable.grown zs.size)).2.2
            storeSet a (relayAll tz zs (SetTable.grown zs.size)).1 (relayAll tz zs (SetTable.grown zs.size)).2.1
            pure (some true)
          else pure (some true)) R E s := by
  refine wpAny_bind (wpAny_storeSet_of ho hd (?_) (fits_of_scanBound bz))
  have oz := store_at (es' := zs) (t' := tz) ho hd
  have sz := Heap.SameBut.update s.heap a (Obj.putSet zs tz)
  split
  · have pq := relayAll_perm tz zs (SetTable.grown zs.size)
    have fq := relayAll_fits tz zs (SetTable.grown zs.size)
    have rq := relayAll_ris tz zs (SetTable.grown zs.size)
    have lq := relayAll_led tz zs (SetTable.grown zs.size)
    generalize relayAll tz zs (SetTable.grown zs.size) = U at pq fq rq lq ⊢
    obtain ⟨us, tu, gave⟩ := U
    dsimp only at pq fq rq lq ⊢
    have hus : us.size = zs.size := by rw [← Array.length_toList, pq.length_eq, Array.length_toList]
    have bu : us.size < scanBound := by rw [hus]; exact bz
    refine wpAny_bind (hgv _ _ _ (?_))
    refine wpAny_bind (wpAny_storeSet_of oz rfl (?_) (fits_of_scanBound bu))
    have ou := store_at (es' := us) (t' := tu) oz rfl
    exact wpAny_pure (hR _ (sz.trans (Heap.SameBut.update _ a _)) ⟨_, us, _, tu, ou, hex, rfl, fun e he => gz e (pq.mem_iff.mp he), (pq.map kf).trans pz, nz, bu, fq, rq, lz.imp id fun q => by rw [lq]; exact q⟩)
  · exact wpAny_pure (hR _ sz ⟨_, zs, _, tz, oz, hex, rfl, gz, pz, nz, bz, fz, rz, lz⟩)
theorem sg_add {k : K'} {v : Value} {Q : Bool → Shared → Prop} (hkf : ∀ (i : Int) (u : Value) (j : K'), kd.is j u = true → kf (i, u) = j) (hk : kd.is k v = true) (hsc : v.scannable = true) (R : SG kd kf s.heap a ks) (room : ks.length + 1 < scanBound)
    (hQ : ∀ (h' : Heap) (b : Bool), Heap.SameBut a s.heap h' → SG kd kf h' a (if k ∈ ks then ks else k :: ks) → Q b { s with heap := h' }) :
    wpAny (model P w) A (setAddHashed a v (kd.hash k)) Q E s := by
  obtain ⟨o, ys, ep, tb, ho, hex, hd, g, pm, nd, hb, hf, hr, hl⟩ := R
  have hel : ElemsOf kd ys.toList := goodG_elems g
  have hlen : ys.size = ks.length := by rw [← pm.length_eq, List.length_map, Array.length_toList]
  unfold setAddHashed setAddHashedIn
  refine wpAny_holding (wpAny_bind (wpAny_setState_of ho hd hf (?_)))
  dsimp only
  rw [byScan_of hsc hb hel]
  simp only [if_true]
  unfold setAddByScan
  refine wpAny_bind (wpAny_bind (wpAny_rule (?_)))
  refine wpAny_bind (wpAny_setScan_of hk ho hd hf hel (?_))
  have mem : (∃ e ∈ ys.toList, kd.is k e.2 = true) ↔ k ∈ ks := by
    rw [← pm.mem_iff, List.mem_map]
    exact ⟨fun ⟨e, he, q⟩ => ⟨e, he, hkf e.1 e.2 k q⟩, fun ⟨e, he, q⟩ => ⟨e, he, by rw [← q]; exact (g e he).1⟩⟩
  cases hfi : List.findIdx? (fun e => kd.is k e.2) ys.toList with
  | some j =>
    dsimp only
    obtain ⟨hj, pj, _⟩ := List.findIdx?_eq_some_iff_getElem.mp hfi
    have hin : k ∈ ks := mem.mp ⟨ys.toList[j], List.getElem_mem hj, pj⟩
    exact wpAny_pure (wpAny_pure (hQ s.heap false (Heap.SameBut.refl a s.heap) (by rw [if_pos hin]; exact ⟨o, ys, ep, tb, ho, hex, hd, g, pm, nd, hb, hf, hr, hl⟩)))
  | none =>
    dsimp only
    have hni : k ∉ ks := fun z => by
      obtain ⟨e, he, q⟩ := mem.mpr z
      have c := List.findIdx?_eq_none_iff.mp hfi e he
      rw [q] at c
      cases c
    have hgw : ∀ (b : Bool) {z : Shared} {R' : Unit → Shared → Prop}, R' () z → wpAny (model P w) A (match b with | true => rule "set.scan.the-table-gave-way" | false => pure ()) R' E z := fun b z R' q => by
      cases b
      · exact wpAny_pure q
      · exact wpAny_rule q
    have p1 := layNew_perm tb ys (kd.hash k) v
    have f1 := layNew_fits tb ys (kd.hash k) v
    have r1 := layNew_ris tb ys (kd.hash k) v hr
    have l1 := layNew_led tb ys (kd.hash k) v
    generalize layNew tb ys (kd.hash k) v = U at p1 f1 r1 l1 ⊢
    obtain ⟨zs, tz, dm, gave⟩ := U
    dsimp only at p1 f1 r1 l1 ⊢
    rw [Array.toList_push] at p1
    have pc : zs.toList.Perm ((kd.hash k, v) :: ys.toList) := p1.trans (List.perm_append_singleton _ _)
    have kk : kf (kd.hash k, v) = k := hkf _ _ _ hk
    have pk : (zs.toList.map kf).Perm (k :: ks) := by
      have := pc.map kf
      rw [List.map_cons, kk] at this
      exact this.trans (pm.cons k)
    have gz : ∀ e ∈ zs.toList, GoodG kd kf e := fun e he => by
      rcases List.mem_cons.mp (pc.mem_iff.mp he) with z | z
      · rw [z]
        exact ⟨by rw [kk]; exact hk, by rw [kk], hsc⟩
      · exact g e z
    have zsz : zs.size = ks.length + 1 := by rw [← Array.length_toList, pc.length_eq, List.length_cons, Array.length_toList, hlen]
    have bz : zs.size < scanBound := by rw [zsz]; exact room
    have lz : w.params.followText "set-order" = true ∨ tz.led = true := hl.imp id fun q => by rw [l1]; exact q
    have fin : ∀ h', Heap.SameBut a s.heap h' → SG kd kf h' a (k :: ks) → Q true { s with heap := h' } := fun h' sb r => hQ h' true sb (by rw [if_neg hni]; exact r)
    refine wpAny_bind (hgw _ (?_))
    split
    · refine wpAny_bind (?_)
      rw [hashByValue_scannable 8 hsc]
      refine wpAny_pure (?_)
      refine sg_tail (ls := k :: ks) (?_) ho hex hd gz pk (List.nodup_cons.mpr ⟨hni, nd⟩) bz (?_) (?_) (?_) (?_)
      · intro b z R' q
        cases b
        · exact wpAny_pure q
        · exact wpAny_rule q
      · first | (split <;> first | exact f1 | exact SetTable.fits_plain_off f1) | exact f1
      · first | (split <;> exact r1) | exact r1
      · first | (split <;> exact lz) | exact lz
      · intro h' sb r
        dsimp only
        exact wpAny_pure (fin h' sb r)
    · refine wpAny_bind (wpAny_pure (?_))
      simp only [if_true]
      refine sg_tail (ls := k :: ks) (?_) ho hex hd gz pk (List.nodup_cons.mpr ⟨hni, nd⟩) bz f1 r1 lz (?_)
      · intro b z R' q
        cases b
        · exact wpAny_pure q
        · exact wpAny_rule q
      · intro h' sb r
        dsimp only
        exact wpAny_pure (fin h' sb r)
end
end GD

/-! sets of keys: gathered from a list; sorted, for texts -/
namespace GD
open PySem PySem.Spec PyProof.Rows L2
section
variable {K' : Type} [DecidableEq K']
def addU (ks : List K') (k : K') : List K' := if k ∈ ks then ks else k :: ks
def unq (xs : List K') : List K' := xs.foldl addU []
theorem mem_addU (ks : List K') (k j : K') : j ∈ addU ks k ↔ j = k ∨ j ∈ ks := by
  unfold addU
  split
  · exact ⟨.inr, fun h => h.elim (fun e => by subst e; assumption) id⟩
  · exact List.mem_cons
theorem foldl_addU (j : K') : ∀ (xs ks : List K'), j ∈ xs.foldl addU ks ↔ j ∈ ks ∨ j ∈ xs
  | [], ks => by simp
  | x :: xs, ks => by
    rw [List.foldl_cons, foldl_addU j xs, mem_addU, List.mem_cons]
    exact ⟨fun h => h.elim (fun h => h.elim (fun e => .inr (.inl e)) .inl) fun h => .inr (.inr h), fun h => h.elim (fun h => .inl (.inr h)) fun h => h.elim (fun e => .inl (.inl e)) .inr⟩
theorem mem_unq (j : K') (xs : List K') : j ∈ unq xs ↔ j ∈ xs := by unfold unq; rw [foldl_addU]; simp
theorem len_addU (ks : List K') (k : K') : (addU ks k).length ≤ ks.length + 1 := by unfold addU; split <;> simp
theorem foldl_len : ∀ (xs ks : List K'), (xs.foldl addU ks).length ≤ ks.length + xs.length
  | [], ks => by simp
  | x :: xs, ks => by
    have h1 := foldl_len xs (addU ks x)
    have h2 := len_addU ks x
    rw [List.foldl_cons, List.length_cons]
    omega
theorem unq_len (xs : List K') : (unq xs).length ≤ xs.length := by
  have := foldl_len xs []
  simpa [unq] using this
theorem foldl_nodup : ∀ (xs ks : List K'), ks.Nodup → (xs.foldl addU ks).Nodup
  | [], ks, h => h
  | x :: xs, ks, h => by
    refine foldl_nodup xs _ ?_
    unfold addU
    split
    · exact h
    · exact List.nodup_cons.mpr ⟨by assumption, h⟩
theorem unq_nodup (xs : List K') : (unq xs).Nodup := foldl_nodup xs [] List.nodup_nil
theorem unq_snoc (xs : List K') (k : K') : unq (xs ++ [k]) = addU (unq xs) k := by unfold unq; rw [List.foldl_append]; rfl
end
section
variable {P : Program} {w : World} {K' : Type} [DecidableEq K'] {kd : PySem.KeyKind P w K'} {kf : Int × Value → K'} {A : Around} {E : Value → Shared → Prop} {s : Shared}
theorem sg_update {I : Addr} {fp wr : List Addr} {G : Array GenState → Array GenState → Prop} {n : Nat} {Pv : Nat → Value → Prop} {St : Nat → Shared → Prop} {R : Result → Shared → Prop} (W : WalksS P w A.in1 I fp wr G n Pv St) (S : Addr) (hSf : S ∉ fp) (xs : List K') (hn : n = xs.length) (hb : xs.length + 1 < scanBound)
    (hkf : ∀ (i : Int) (u : Value) (j : K'), kd.is j u = true → kf (i, u) = j) (hval : ∀ i v, Pv i v → ∃ k, xs[i]? = some k ∧ kd.is k v = true ∧ v.scannable = true) :
    ∀ (m i : Nat) (z : Shared), n - i = m → i ≤ n → St i z → SG kd kf z.heap S (unq (xs.take i)) → (∀ z', Moved (S :: wr) G z z' → SG kd kf z'.heap S (unq xs) → R (.ok (.ret .none)) z') →
      codeAny (model P w) A (.builtin "set.update.loop" ⟨[.ref S, .ref I], []⟩) R z := by
  have hSw : S ∉ wr := fun h => hSf (W.sub _ h)
  have sub2 : ∀ b ∈ wr, b ∈ S :: wr := fun b hb => List.mem_cons_of_mem _ hb
  intro m
  induction m with
  | zero =>
    intro i z hm hi st hS hR
    have ein : i = n := by omega
    subst ein
    refine codeAny_builtin F.entry_set_update_loop (?_)
    rw [Around.under_plainId F.plain_set_update_loop _]
    show wpAny (model P w) A.in1 (pyNext (.ref I) >>= _) _ _ z
    refine wpAny_bind (W.done z _ _ st fun z' mv => ?_)
    show wpAny (model P w) A.in1 (ret Value.none) _ _ z'
    rw [List.take_of_length_le (by omega)] at hS
    exact wpAny_pure (hR z' (mv.mono sub2) (hS.at fun o e => mv.heap S o hSw e))
  | succ m ih =>
    intro i z hm hi st hS hR
    have hlt : i < n := by omega
    refine codeAny_builtin F.entry_set_update_loop (?_)
    rw [Around.under_plainId F.plain_set_update_loop _]
    show wpAny (model P w) A.in1 (pyNext (.ref I) >>= _) _ _ z
    refine wpAny_bind (W.item i z _ _ hlt st fun v z' pv st' mv => ?_)
    obtain ⟨k, hk1, hk2, hk3⟩ := hval i v pv
    have hS' : SG kd kf z'.heap S (unq (xs.take i)) := hS.at fun o e => mv.heap S o hSw e
    show wpAny (model P w) A.in1 (holding [v] (setAdd S v) >>= _) _ _ z'
    refine wpAny_bind (wpAny_holding (?_))
    unfold setAdd
    refine wpAny_holding (wpAny_bind (kd.pyHash hk2 (?_)))
    have hl1 := unq_len (xs.take i)
    rw [List.length_take] at hl1
    refine sg_add (s := { z' with toks := z'.toks + 1 }) hkf hk2 hk3 hS' (by omega) fun h' b sb hS2 => ?_
    have et : xs.take (i + 1) = xs.take i ++ [k] := by rw [List.take_succ, hk1]; rfl
    have hS3 : SG kd kf h' S (unq (xs.take (i + 1))) := by rw [et, unq_snoc]; exact hS2
    refine wpAny_pure ⟨plainId_quiet F.plain_set_update_loop _, ih (i + 1) _ (by omega) hlt (W.frame _ z' _ _ st' (Nat.le_succ _) fun b hb o e => ?_) hS3 fun z2 mv2 hS4 => ?_⟩
    · rw [sb.2 b (fun h : b = S => hSf (by rw [← h]; exact hb))]
      exact e
    · refine hR z2 (Moved.trans W.gtrans ((mv.mono sub2).then_heap (Nat.le_succ _) fun b o hb e => ?_) mv2) hS4
      rw [sb.2 b (fun h : b = S => hb (by rw [h]; exact List.mem_cons_self))]
      exact e
/-- set(l) of a list of such keys -/
theorem set_of_keys {l : Addr} {its : Array Value} (xs : List K') {Q : Value → Shared → Prop} (hkf : ∀ (i : Int) (u : Value) (j : K'), kd.is j u = true → kf (i, u) = j) (hh : A.handled = none) (hl : s.heap.IsList l its) (hz : its.size = xs.length)
    (hi : ∀ (i : Nat) (v : Value), its[i]? = some v → ∃ k : K', xs[i]? = some k ∧ kd.is k v = true ∧ v.scannable = true) (hb : xs.length + 1 < scanBound)
    (hQ : ∀ (h' : Heap) (tk : Nat), SG kd kf h' s.heap.objs.size (unq xs) → (∀ b o, s.heap.get? b = some o → h'.get? b = some o) → Q (.ref s.heap.objs.size) { s with heap := h', toks := tk }) :
    wpAny (model P w) A (call (.type "set") [.ref l]) Q E s :=
  set_of_lst (Gd := fun h => SG kd kf h s.heap.objs.size (unq xs)) hh hl (fun A' R s1 I hA hlI hS hst hset hR => sg_update ((Walks.list hA I l hlI its).toS) s.heap.objs.size hS xs hz hb hkf hi (its.size - 0) 0 s1 rfl (Nat.zero_le _) hst (sg_new hset) hR) hQ
end
end GD

/-! sets of texts: sorted -/
namespace GD
open PySem PySem.Spec PyProof.Rows L2
def kfS (e : Int × Value) : Str := match e.2 with
  | .str x _ => x
  | _ => ("" : Str)
theorem kfS_is {P : Program} {w : World} (i : Int) (u : Value) (j : Str) (h : (PySem.strKind P w).is j u = true) : kfS (i, u) = j := by
  obtain ⟨t, rfl⟩ := Value.isStrOf_shape h
  rfl
def txtOf : Value → Str
  | .str x _ => x
  | _ => ("" : Str)
theorem strs_are : ∀ vs : List Value, (∀ v ∈ vs, ∃ x t, v = Value.str x t) → StrsAre vs (vs.map txtOf)
  | [], _ => .nil
  | v :: vs, h => by
    obtain ⟨x, t, rfl⟩ := h v (List.mem_cons_self ..)
    exact .cons x t (strs_are vs fun u hu => h u (List.mem_cons_of_mem _ hu))
section
variable {P : Program} {w : World} {A : Around} {E : Value → Shared → Prop} {s : Shared} {a : Addr} {ks : List Str}
theorem sorted_sg {Q : Value → Shared → Prop} (R : SG (PySem.strKind P w) kfS s.heap a ks) (hh : A.handled = none) (hl : ks.length ≤ 1000)
    (hQ : ∀ (z : Shared) (p : Addr) (out : Array Value) (c : Nat) (ls : List Str), (∀ b o, s.heap.get? b = some o → z.heap.get? b = some o) → z.gens = s.gens → z.os = s.os → s.heap.objs.size ≤ p →
      z.heap.get? p = some (seqObj "list" out c) → StrsAre out.toList ls → sortedS ls = true → ls.Perm ks → Q (.ref p) z) :
    wpAny (model P w) A (call (.builtin "sorted") [.ref a]) Q E s := by
  obtain ⟨o, ys, ep, tb, ho, hex, hd, g, pm, nd, hb, hf, hr, hle⟩ := R
  refine Calls.call_function_entry kind_sorted plain_sorted entry_sorted (args_sorted1 _) (?_)
  unfold Builtin.«sorted»
  refine wpAny_bind (m := checkCount "sorted" 1 1 _) (wpAny_pure (?_))
  refine wpAny_bind (collect_set (A := A.in1) hh ⟨o, ho, hex.1, hd⟩ hf hb hr hle fun z vs kp hz gz oz pv => ?_)
  have hvl : vs.length = ks.length := by rw [pv.length_eq, List.length_map, ← pm.length_eq, List.length_map]
  have allS : ∀ v ∈ vs, ∃ x t, v = Value.str x t := fun v hv => by
    obtain ⟨e, he, q⟩ := List.mem_map.mp (pv.mem_iff.mp hv)
    obtain ⟨t, ht⟩ := Value.isStrOf_shape (g e he).1
    exact ⟨_, t, by rw [← q]; exact ht⟩
  have hS := strs_are vs allS
  have pk : (vs.map txtOf).Perm ks := by
    have q := pv.map txtOf
    rw [List.map_map] at q
    exact q.trans pm
  have hv2 : vs.length ≤ sizeLine := by rw [hvl, sizeLine_eq]; omega
  refine wpAny_bind (wpAny_newList (?_) hv2)
  have gL : (z.heap.push (seqObj "list" vs.toArray 0)).get? z.heap.objs.size = some (seqObj "list" vs.toArray 0) := Heap.get?_push_size _ rfl
  refine wpAny_bind (wpAny_holding (wpAny_call_entry slot_list_sort ⟨_, gL, rfl⟩ entry_list_sort (list_sort_treeKAny strKind_oneLt gL hS.keysOf (fun v1 v2 rest e => keyKind_strs (by rw [← e]; exact hS)) hv2 fun st' q1 q2 => ⟨_, rfl, ?_⟩) (args_list_sort _)))
  obtain ⟨ls, m1, m2, m3⟩ := sorted_out_str hS q1 q2
  obtain ⟨c, hc⟩ := sortedHeap_at (vs := vs) (out := (arrOf st').map (·.2)) gL
  refine wpAny_pure ⟨_, rfl, hQ _ z.heap.objs.size _ c ls (fun b u e => ?_) gz oz hz hc m1 m3 (m2.trans pk)⟩
  have q := kp b u e
  have lb := Heap.lt_size q
  show (sortedHeap (z.heap.push (seqObj "list" vs.toArray 0)) z.heap.objs.size vs _).get? b = some u
  rw [sortedHeap_old (Nat.ne_of_lt lb) (by rw [size_push']; exact Nat.lt_succ_of_lt lb)]
  exact Heap.get?_push_of_some _ q
end
end GD

/-! sets of texts as objects; a set comprehension of texts -/
namespace GD
open PySem PySem.Spec PyProof.Rows L2
abbrev SS (P : Program) (w : World) (h : Heap) (a : Addr) (ks : List Str) : Prop := SG (PySem.strKind P w) kfS h a ks
def SGO (P : Program) (w : World) (a : Addr) (ks : List Str) : HO := .ext fun h => SS P w h a ks
theorem sgo_new {w : World} {P : Program} {H : Hp} {h : Heap} {a : Addr} {ks : List Str} (R : SS P w h a ks) : ObjOk P w H h a (SGO P w a ks) := by
  have ⟨o, _, _, _, ho, _⟩ := R
  exact ⟨R, ⟨o, ho⟩, fun h1 h2 p k => SG.at p k⟩
section
variable {X : Cx}
theorem sgo_get {pins : List (Addr × Obj)} {σ : L2.St} {H : Hp} {s : Shared} {a : Addr} {ks : List Str} (I : Inv X pins σ H s) (ha : H a = some (SGO X.prog X.w a ks)) : SS X.prog X.w s.heap a ks := (I.hok a _ ha).1
/-- set.add of a text -/
theorem addS_ok {pins : List (Addr × Obj)} {σ : L2.St} {H : Hp} {s : Shared} {E : Value → Shared → Prop} {D : Addr} {ks : List Str} {y : Str} {t : Tok} {Q : Value → Shared → Prop} (I : Inv X pins σ H s) (hD : H D = some (SGO X.prog X.w D ks)) (room : ks.length + 1 < scanBound)
    (hQ : ∀ z, Inv X pins σ (upd H D (SGO X.prog X.w D (addU ks y))) z → Q .none z) : wpAny (model X.prog X.w) X.A (call (.builtin "set.add") [.ref D, .str y t]) Q E s := by
  have R := sgo_get I hD
  have ty : s.TypeIs (.ref D) "set" := by
    obtain ⟨o, _, _, _, ho, hex, _⟩ := R
    exact ⟨o, ho, hex.1⟩
  have hk : (PySem.strKind X.prog X.w).is y (.str y t) = true := by show Value.isStrOf y (.str y t) = true; simp [Value.isStrOf]
  refine wpAny_call_entry F.slot_set_add ty F.entry_set_add (?_) (F.args_set_add_2 _ _)
  unfold Builtin.«set.add» Builtin.Frozenset.oneOther
  simp only [List.isEmpty_nil, bind_assoc]
  unfold Builtin.Frozenset.addrOf setAdd
  refine wpAny_bind (wpAny_pure (?_))
  try dsimp only
  refine wpAny_bind (wpAny_pure (?_))
  try dsimp only
  refine wpAny_bind (wpAny_holding (wpAny_bind ((PySem.strKind X.prog X.w).pyHash hk (?_))))
  refine sg_add (s := { s with toks := s.toks + 1 }) kfS_is hk rfl R room fun h' b sb new => ?_
  show wpAny (model X.prog X.w) _ (ret Value.none) _ _ _
  have he : ∃ u, h'.get? D = some u := by
    have ⟨o, _, _, _, ho, _⟩ := new
    exact ⟨o, ho⟩
  exact wpAny_pure ⟨_, rfl, hQ _ (I.write (e := D) (t' := s.toks + 1) (by rw [hD]; trivial) (.inl rfl) (fun b u hb hu => (sb.2 b hb).trans hu) he (sgo_new new))⟩
/-- {elt for target in iter if ..}, elt a text: D the new set -/
def tScS (P : Program) (w : World) (wi : TI) (g : TG) (tt : TT) (te : TE) (vs : List Nat) : TE := fun σ H Q => wi σ H fun J H1 => ∀ D, H1 D = none → ∃ W : Nat → Nat → Hp → Prop, (∃ m, W 0 m (upd H1 D (SGO P w D []))) ∧ ∀ i m H, W i m H →
  (J.stop i H ∧ Q (.ref D) H) ∨ (J.go i H ∧ ∃ Nx : Hp → Prop, (∀ H', Nx H' → ∃ m', m' < m ∧ W (i + 1) m' H') ∧ ∀ x H', J.yld i H x H' → g x (wipe σ vs) H' fun σ2 H2 => wipe σ2 vs = wipe σ vs ∧ tt σ2 H2 fun b H3 =>
    if b = true then te σ2 H3 fun y H4 => ∃ (c : Str) (ks : List Str), y = .str c ∧ H4 D = some (SGO P w D ks) ∧ ks.length + 1 < scanBound ∧ Nx (upd H4 D (SGO P w D (addU ks c))) else Nx H3)
theorem pe_scS {elt tg iter : Expr} {ifs : List Expr} {scope : Scope} {own : List (PySem.Str × Nat)} {pos : Pos} {wi : TI} {g : TG} {tt : TT} {te : TE} (hc : X.calm = true) (hN : X.N.Nodup) (hi : PI X tg iter wi) (ok : BlkOk X.N X.env.scope scope own)
    (hg : ∀ (z : Shared) (G : Hp) (C : Addr) (cl : List (PySem.Str × Addr)) (fp : List Addr), PG (X.blk z G scope (compEnvC scope cl C X.env) fp) tg g) (ht : ∀ (z : Shared) (G : Hp) (C : Addr) (cl : List (PySem.Str × Addr)) (fp : List Addr), PTs (X.blk z G scope (compEnvC scope cl C X.env) fp) ifs tt)
    (he : ∀ (z : Shared) (G : Hp) (C : Addr) (cl : List (PySem.Str × Addr)) (fp : List Addr), PE (X.blk z G scope (compEnvC scope cl C X.env) fp) elt te) (hs : ∀ x, foldedSetIterable iter X.env x = pure x := by intro _; rfl) :
    PE X (.SetComp elt [⟨tg, iter, ifs, 0⟩] scope pos) (tScS X.prog X.w wi g tt te (own.map (·.2))) := by
  refine ⟨fun pins s0 σ H Q I h => ?_⟩
  rw [PpSet.eval_SetComp]
  have outer : ∀ y ∈ scope.names, y.2 = .free → ∃ c, X.env.cells.lookup y.1 = some c := fun y hy e => (ok.free y hy e).elim (fun k => I.ok.has _ (.inl k)) fun k => I.ok.has _ (.inr k)
  refine wpAny_comprehension_free (use := none) rfl hs (closure_ok outer) ok.kind (fun y hy e => by rw [ok.uniq y hy, e])
    (thn (hi.run pins s0 σ H _ I h) fun xv z1 hx => thn hx fun itv z2 ⟨it, fp, tn, J, G1, e, I2, T, st2, f2, q⟩ => ?_)
  subst e
  refine PpSet.newSet_ok (newEnv_comp (?_))
  -- the empty set at D
  obtain ⟨D, hD⟩ : ∃ D, z2.heap.objs.size = D := ⟨_, rfl⟩
  rw [hD]
  obtain ⟨W, ⟨m0, w0⟩, turn⟩ := q D (I2.hok.fresh (Nat.le_of_eq hD))
  obtain ⟨z3, hz3⟩ : ∃ z3 : Shared, { z2 with heap := z2.heap.push (nsetO X.w) } = z3 := ⟨_, rfl⟩
  have eh : z3.heap = z2.heap.push (nsetO X.w) := by rw [← hz3]
  obtain ⟨G3, hG3⟩ : ∃ G3, upd G1 D (SGO X.prog X.w D []) = G3 := ⟨_, rfl⟩
  have I3 : Inv X pins σ G3 z3 := by
    rw [← hG3, ← hz3]
    exact I2.laid (t' := z2.toks) (fun b o e => Heap.get?_push_of_some _ e) (Nat.le_of_eq hD) (sgo_new (sg_new (by rw [← hD]; exact Heap.get?_push_size _ rfl)))
  rw [hG3] at w0
  have low : ∀ b ∈ fp, b < z2.heap.objs.size := fun b hb => by
    obtain ⟨o, e, _⟩ := T.obj _ _ st2 b hb
    exact Heap.lt_size e
  have f3 : ∀ b ∈ fp, FpOk X pins G3 b ∧ b < z3.heap.objs.size := fun b hb => by
    have lt := low b hb
    refine ⟨⟨?_, (f2 b hb).2⟩, by rw [eh, Heap.size_push]; exact Nat.lt_succ_of_lt lt⟩
    rw [← hG3, upd_ne (by rw [← hD]; exact Nat.ne_of_lt lt)]
    exact (f2 b hb).1
  have st3 : tn 0 z3.heap := T.keep _ _ _ st2 fun b _ o e => by rw [eh]; exact Heap.get?_push_of_some _ e
  have J4 := block_start I3 ok hN f3
  have pg := hg z3 G3 z3.heap.objs.size (cellsFrom (z3.heap.objs.size + 1) scope.names (cloFrom X.env.cells scope.names [])) fp
  have pt := ht z3 G3 z3.heap.objs.size (cellsFrom (z3.heap.objs.size + 1) scope.names (cloFrom X.env.cells scope.names [])) fp
  have pe := he z3 G3 z3.heap.objs.size (cellsFrom (z3.heap.objs.size + 1) scope.names (cloFrom X.env.cells scope.names [])) fp
  rw [show ({ z2 with heap := z2.heap.push { cls := .type "set", dict := none, data := .set #[] 0 (.fresh 0 0 (!X.w.params.followText "set-order")) } } : Shared) = z3 from hz3]
  show codeAny _ _ (.compStart (.SetComp elt [⟨tg, iter, ifs, 0⟩] scope pos) 0 (.ref it) (.ref D) (compEnvC scope (cellsFrom (z3.heap.objs.size + 1) scope.names (cloFrom X.env.cells scope.names [])) z3.heap.objs.size X.env)) (compPost (model X.prog X.w) X.A X.xe none _ (.ref D) z3.heap.objs.size) { z3 with heap := pushCells (z3.heap.push { cls := .type "dict", data := .dict #[] }) scope.names }
  have away : ∀ b ∈ fp, G3 b = none := fun b hb => (f3 b hb).1.1
  generalize hce : compEnvC scope (cellsFrom (z3.heap.objs.size + 1) scope.names (cloFrom X.env.cells scope.names [])) z3.heap.objs.size X.env = ce at J4 pg pt pe ⊢
  have loc : ce.locals = z3.heap.objs.size := by subst hce; rfl
  generalize hz4 : ({ z3 with heap := pushCells (z3.heap.push { cls := .type "dict", data := .dict #[] }) scope.names } : Shared) = z4 at J4 ⊢
  have st4 : tn 0 z4.heap := T.keep _ _ _ st3 fun b _ o e => by rw [← hz4]; exact pushCells_keeps _ _ _ _ (Heap.get?_push_of_some _ e)
  have still : ∀ {σ' : L2.St} {G : Hp} {z : Shared}, Inv (X.blk z3 G3 scope ce fp) [] σ' G z → (∀ b ∈ fp, G b = none) → ∀ b ∈ fp, FpOk (X.blk z3 G3 scope ce fp) [] G b := fun {σ' G z} I' no b hb =>
    ⟨no b hb, (I'.ok.exf b hb).1, I'.ok.exfs b hb, .inl hb, fun x c e => (I'.ok.exf b hb).2 x c e, fun p hp => absurd (show p ∈ ([] : List (Addr × Obj)) ++ [] from hp) (by simp)⟩
  refine (fun loop => PpSet.codeAny_compStart_set loop (T.self X.A 0 _ _ _ st4 loop)) (?_ : codeAny (model X.prog X.w) X.A (.compLoop (.SetComp elt [⟨tg, iter, ifs, 0⟩] scope pos) 0 (.ref it) (.ref D) ce) (compPost (model X.prog X.w) X.A X.xe none _ (.ref D) z3.heap.objs.size) z4)
  refine PpSet.compLoopS_any (fun n z => ∃ i G, Inv (X.blk z3 G3 scope ce fp) [] (wipe σ (own.map (·.2))) G z ∧ tn i z.heap ∧ (∀ b ∈ fp, G b = none) ∧ W i n G) (?_) m0 ⟨0, G3, J4, st4, away, w0⟩
  rintro n z5 ⟨i, G5, I5, st5, no5, w5⟩
  rcases turn i n G5 w5 with ⟨stop, fin⟩ | ⟨go, Nx, hNx, step⟩
  · refine thnF (T.done (X.blk z3 G3 scope ce fp) rfl rfl rfl hc i [] z5 _ G5 (fun _ _ => False) I5 (still I5 no5) st5 stop) fun r z6 ⟨hr, I6⟩ => ?_
    subst hr
    have I7 : Inv X pins σ G5 z6 := I3.call' (ch := fp) I6.os I6.base I6.hok I6.bare fun b hb => ⟨(f3 b hb).1.2.2.2.1, (f3 b hb).1.2.1, (f3 b hb).1.2.2.2.2.1, (f3 b hb).1.2.2.2.2.2⟩
    have nC : G5 z3.heap.objs.size = none := by rw [← loc]; exact I6.free
    obtain ⟨m, hm, _⟩ := I6.loc
    have hm' : z6.heap.Ns z3.heap.objs.size m := by rw [← loc]; exact hm
    obtain ⟨k0, k1, k2, k3, k4, k5⟩ := I3.fpOk (Nat.le_refl _) nC
    exact ⟨m, hm', fun h'' sb => ⟨.ref D, G5, I7.turned (t' := z6.toks) (fun b o hb e => (sb.2 b hb).trans e) k0 k1 k3 k4 k5, rfl, fin⟩⟩
  · refine thnF (T.item (X.blk z3 G3 scope ce fp) rfl rfl rfl hc i [] z5 _ G5 (fun _ _ => False) I5 (still I5 no5) st5 go) fun r z6 ⟨u, hr, h6⟩ => ?_
    subst hr
    refine thnF h6 fun _ z7 ⟨x, G7, I7, r7, y7, st7, no7⟩ => ?_
    refine thnF (pg.run _ z7 _ G7 x u _ (I7.pinned (still I7 no7) (T.obj _ _ st7)) r7 (step x G7 y7)) fun _ z8 ⟨σ8, G8, I8, hw8, q8⟩ => ?_
    refine thnF (pt.run _ z8 σ8 G8 _ I8 q8) fun b z9 ⟨G9, I9, q9⟩ => ?_
    have next : ∀ {z : Shared} {G : Hp}, Inv (X.blk z3 G3 scope ce fp) ([] ++ pinsAt fp z7.heap) σ8 G z → Nx G → ∃ m, m < n ∧ ∃ i G, Inv (X.blk z3 G3 scope ce fp) [] (wipe σ (own.map (·.2))) G z ∧ tn i z.heap ∧ (∀ b ∈ fp, G b = none) ∧ W i m G := fun {z G} I' nx => by
      obtain ⟨m', hm, w'⟩ := hNx G nx
      have pin : ∀ b ∈ fp, ∀ o, z7.heap.get? b = some o → z.heap.get? b = some o ∧ G b = none := fun b hb o e =>
        ⟨(I'.pin (b, o) (List.mem_append_right _ (List.mem_append_right _ (mem_pinsAt hb e)))).1, (I'.pin (b, o) (List.mem_append_right _ (List.mem_append_right _ (mem_pinsAt hb e)))).2.1⟩
      refine ⟨m', hm, i + 1, G, (I'.unpinned (pins := [])).weak (by rw [← hw8, wipe_length]) (fun j v e => ?_), T.keep _ _ _ st7 fun b hb o e => (pin b hb o e).1, fun b hb => ?_, w'⟩
      · rw [← hw8] at e
        exact (wipe_some e).1
      · obtain ⟨o, e, _⟩ := T.obj _ _ st7 b hb
        exact (pin b hb o e).2
    cases b with
    | false =>
      simp only [Bool.false_eq_true, if_false] at q9 ⊢
      exact next I9 q9
    | true =>
      simp only [if_true] at q9 ⊢
      refine thnF (pe.run _ z9 σ8 G9 _ I9 q9) fun yv z10 ⟨yV, G10, I10, r10, c, ks, ey, hD10, room, nx⟩ => ?_
      subst ey
      obtain ⟨t, rfl⟩ := (show ∃ t, yv = Value.str c t from r10)
      exact addS_ok (X := X.blk z3 G3 scope ce fp) I10 hD10 room fun z11 I11 => next I11 nx
end
end GD

/-! texts in order; sorted of a set of texts, as data -/
namespace GD
open PySem PySem.Spec PyProof.Rows L2
theorem lc_irr : ∀ l : List Nat, ltCps l l = false
  | [] => rfl
  | a :: l => by unfold ltCps; rw [lc_irr l]; simp
theorem lc_tri : ∀ l r : List Nat, ltCps l r = false → ltCps r l = false → l = r
  | [], [], _, _ => rfl
  | [], _ :: _, h, _ => by cases h
  | _ :: _, [], _, h => by cases h
  | a :: l, b :: r, h, g => by
    unfold ltCps at h g
    simp only [Bool.or_eq_false_iff, decide_eq_false_iff_not, Bool.and_eq_false_iff, beq_eq_false_iff_ne] at h g
    have e : a = b := by omega
    subst e
    rw [lc_tri l r (h.2.resolve_left fun n => n rfl) (g.2.resolve_left fun n => n rfl)]
theorem lc_tr : ∀ l m r : List Nat, ltCps l m = true → ltCps m r = true → ltCps l r = true
  | [], [], _, h, _ => by cases h
  | [], _ :: _, [], _, g => by cases g
  | [], _ :: _, _ :: _, _, _ => rfl
  | _ :: _, [], _, h, _ => by cases h
  | _ :: _, _ :: _, [], _, g => by cases g
  | a :: l, b :: m, c :: r, h, g => by
    unfold ltCps at h g ⊢
    simp only [Bool.or_eq_true, decide_eq_true_eq, Bool.and_eq_true, beq_iff_eq] at h g ⊢
    rcases h with h | ⟨rfl, h⟩
    · rcases g with g | ⟨rfl, g⟩
      · exact .inl (by omega)
      · exact .inl h
    · rcases g with g | ⟨rfl, g⟩
      · exact .inl g
      · exact .inr ⟨rfl, lc_tr l m r h g⟩
/-- one text ahead of another -/
def ltT (x y : Str) : Prop := ltCps x.cps.toList y.cps.toList = true
theorem ltT_irr (x : Str) : ¬ ltT x x := fun h => by unfold ltT at h; rw [lc_irr] at h; cases h
theorem ltT_tr {x y z : Str} (h : ltT x y) (g : ltT y z) : ltT x z := lc_tr _ _ _ h g
theorem ltT_tri {x y : Str} (h : ¬ ltT x y) (g : ¬ ltT y x) : x = y := by
  have e := lc_tri x.cps.toList y.cps.toList (by simpa [ltT] using h) (by simpa [ltT] using g)
  obtain ⟨⟨l⟩⟩ := x
  obtain ⟨⟨r⟩⟩ := y
  simp at e
  rw [e]
instance (x y : Str) : Decidable (ltT x y) := inferInstanceAs (Decidable (_ = true))
def insT (k : Str) : List Str → List Str
  | [] => [k]
  | x :: l => if ltT k x then k :: x :: l else if k = x then x :: l else x :: insT k l
/-- in order, each once -/
def sortT : List Str → List Str
  | [] => []
  | k :: l => insT k (sortT l)
theorem mem_insT (k j : Str) : ∀ l, j ∈ insT k l ↔ j = k ∨ j ∈ l
  | [] => by simp [insT]
  | x :: l => by
    unfold insT
    split
    · simp
    split
    · rename_i h; subst h; simp
    · rw [List.mem_cons, mem_insT k j l, List.mem_cons]
      exact ⟨fun h => h.elim (fun e => .inr (.inl e)) fun h => h.elim .inl fun h => .inr (.inr h), fun h => h.elim (fun e => .inr (.inl e)) fun h => h.elim .inl fun h => .inr (.inr h)⟩
theorem mem_sortT (j : Str) : ∀ l, j ∈ sortT l ↔ j ∈ l
  | [] => by simp [sortT]
  | k :: l => by rw [sortT, mem_insT, mem_sortT j l, List.mem_cons]
theorem insT_lt (k : Str) : ∀ l : List Str, l.Pairwise ltT → (insT k l).Pairwise ltT
  | [], _ => by simp [insT]
  | x :: l, h => by
    obtain ⟨h1, h2⟩ := List.pairwise_cons.mp h
    unfold insT
    split
    · rename_i c
      refine List.pairwise_cons.mpr ⟨fun y hy => ?_, h⟩
      rcases List.mem_cons.mp hy with e | hy
      · rw [e]; exact c
      · exact ltT_tr c (h1 y hy)
    split
    · exact h
    · rename_i c1 c2
      refine List.pairwise_cons.mpr ⟨fun y hy => ?_, insT_lt k l h2⟩
      rcases (mem_insT k y l).mp hy with e | hy
      · rw [e]
        by_cases q : ltT x k
        · exact q
        · exact absurd (ltT_tri c1 q) c2
      · exact h1 y hy
theorem sortT_lt : ∀ l : List Str, (sortT l).Pairwise ltT
  | [] => List.Pairwise.nil
  | k :: l => insT_lt k _ (sortT_lt l)
theorem ltT_uniq : ∀ l r : List Str, l.Pairwise ltT → r.Pairwise ltT → (∀ k, k ∈ l ↔ k ∈ r) → l = r
  | [], [], _, _, _ => rfl
  | [], y :: r, _, _, h => absurd ((h y).mpr (List.mem_cons_self ..)) (by simp)
  | x :: l, [], _, _, h => absurd ((h x).mp (List.mem_cons_self ..)) (by simp)
  | x :: l, y :: r, hl, hr, h => by
    obtain ⟨a1, a2⟩ := List.pairwise_cons.mp hl
    obtain ⟨b1, b2⟩ := List.pairwise_cons.mp hr
    have e : x = y := by
      rcases List.mem_cons.mp ((h x).mp (List.mem_cons_self ..)) with e | hx
      · exact e
      · rcases List.mem_cons.mp ((h y).mpr (List.mem_cons_self ..)) with e | hy
        · exact e.symm
        · exact absurd (ltT_tr (a1 y hy) (b1 x hx)) (ltT_irr x)
    subst e
    rw [ltT_uniq l r a2 b2 fun k => ⟨fun hk => ((List.mem_cons.mp ((h k).mp (List.mem_cons_of_mem _ hk))).resolve_left fun e => by subst e; exact ltT_irr _ (a1 _ hk)), fun hk => ((List.mem_cons.mp ((h k).mpr (List.mem_cons_of_mem _ hk))).resolve_left fun e => by subst e; exact ltT_irr _ (b1 _ hk))⟩]
theorem rising_lt : ∀ (l : List Str) (p : Str), risingS p l = true → (p :: l).Nodup → (p :: l).Pairwise ltT
  | [], p, _, _ => by simp
  | x :: l, p, h, nd => by
    have h' : (!ltCps x.cps.toList p.cps.toList && risingS x l) = true := h
    rw [Bool.and_eq_true] at h'
    obtain ⟨n1, n2⟩ := List.nodup_cons.mp nd
    have ih := rising_lt l x h'.2 n2
    have px : ltT p x := by
      by_cases q : ltT p x
      · exact q
      · exact absurd (ltT_tri q (fun g => by unfold ltT at g; rw [g] at h'; simp at h')) fun e => n1 (by rw [e]; exact List.mem_cons_self ..)
    refine List.pairwise_cons.mpr ⟨fun y hy => ?_, ih⟩
    rcases List.mem_cons.mp hy with e | hy
    · rw [e]; exact px
    · exact ltT_tr px ((List.pairwise_cons.mp ih).1 y hy)
theorem sorted_is {ls ks : List Str} (h : sortedS ls = true) (p : ls.Perm ks) (nd : ks.Nodup) : ls = sortT ks := by
  have nl : ls.Nodup := p.nodup_iff.mpr nd
  have hp : ls.Pairwise ltT := by
    cases ls with
    | nil => exact List.Pairwise.nil
    | cons x l => exact rising_lt l x h nl
  exact ltT_uniq _ _ hp (sortT_lt ks) fun k => by rw [p.mem_iff, mem_sortT]
section
variable {X : Cx}
/-- sorted(found) of a set of texts -/
def rSortG (P : Program) (w : World) : List V → Hp → VK → Prop := fun vs H Q => ∃ (a : Addr) (ks : List Str), vs = [V.ref a] ∧ H a = some (SGO P w a ks) ∧ ks.length ≤ 1000 ∧ ks.Nodup ∧
  ∀ p : Addr, H p = none → Q (.ref p) (upd H p (.lst ((sortT ks).map V.str)))
theorem cr_sortG (hc : X.calm = true) : CallR X (.builtin "sorted") (rSortG X.prog X.w) := by
  intro pins s σ H vs us Q I r h
  obtain ⟨a, ks, rfl, ha, hl, nd, q⟩ := h
  rw [Vals.ref1 r]
  refine sorted_sg (sgo_get I ha) (I.ok.hd hc) hl fun z p out c ls kp gz oz hp hob hst hso hpm => ?_
  have e := sorted_is hso hpm nd
  subst e
  have hlen : ((sortT ks).map V.str).length ≤ sizeLine := by rw [List.length_map, hpm.length_eq, sizeLine_eq]; omega
  have hn : H p = none := I.hok.fresh hp
  have J : Inv X pins σ (upd H p (.lst ((sortT ks).map V.str))) { s with heap := z.heap, gens := z.gens, drawn := z.drawn, toks := z.toks } :=
    I.call (ch := []) (Un.laid kp hp hn) (I.hok.laid kp hp ⟨hlen, out.toList, c, vals_of_strs hst, hob⟩) (by rw [gz]; exact I.bare) (fun _ q => nomatch q)
  have ez : z = { s with heap := z.heap, gens := z.gens, drawn := z.drawn, toks := z.toks } := by
    cases z
    cases s
    cases oz
    rfl
  rw [ez]
  exact ⟨.ref p, _, J, rfl, q p hn⟩
end
end GD

/-! sorted({text for ..}) as data -/
namespace GD
open PySem PySem.Spec PyProof.Rows L2
theorem compE_pre {vs : List Nat} {g : D → En → Option En} {c : EvT} {e : EvE} : ∀ (xs acc : List D) (env : En) (ds : List D) (env' : En), compE vs g c e xs acc env = some (ds, env') → ∃ rest, ds = acc ++ rest
  | [], acc, env, ds, env', h => by cases h; exact ⟨[], by simp⟩
  | x :: xs, acc, env, ds, env', h => by
    simp only [compE, Option.bind_eq_some_iff] at h
    obtain ⟨e3, b1, ⟨b, e4⟩, b2, b3⟩ := h
    cases b with
    | false =>
      simp only [Bool.false_eq_true, if_false] at b3
      exact compE_pre xs acc _ ds env' b3
    | true =>
      simp only [if_true, Option.bind_eq_some_iff] at b3
      obtain ⟨⟨r, e7⟩, b4, d, b5, b6⟩ := b3
      split at b6
      · obtain ⟨rest, hr⟩ := compE_pre xs _ _ ds env' b6
        exact ⟨[d] ++ rest, by rw [hr, List.append_assoc]⟩
      · cases b6
theorem strsOf_all : ∀ {ds : List D} {cs : List Str}, strsOf ds = some cs → ds = cs.map .str
  | [], cs, h => by cases h; rfl
  | d :: ds, cs, h => by
    cases d with
    | str b =>
      simp only [strsOf, Option.map_eq_some_iff] at h
      obtain ⟨l, hl, rfl⟩ := h
      rw [List.map_cons, ← strsOf_all hl]
    | _ => cases h
theorem pre_str {cs : List Str} {ks : List Str} {d : D} {rest : List D} (h : cs.map PyData.str = (ks.map .str ++ [d]) ++ rest) : ∃ c, d = .str c := by
  have hm : d ∈ cs.map PyData.str := by rw [h]; simp
  obtain ⟨c, _, rfl⟩ := List.mem_map.mp hm
  exact ⟨c, rfl⟩
def eSC (vs : List Nat) (fw : EvW) (g : D → En → Option En) (c : EvT) (e : EvE) : EvM := fun env => (fw env).bind fun p => if decide (p.1.length ≤ 1000) = true then
  (compE vs g c e p.1 [] (wipeE p.2 vs)).bind fun q => (strsOf q.1).map fun cs => (.l ((sortT (unq cs)).map .str), q.2) else none
theorem rp_strs {K : PySem.W.Frag} {O : Addr → Prop} {H : Hp} : ∀ ns : List Str, RpAll K O H (ns.map V.str) (ns.map PyData.str)
  | [] => .nil
  | n :: ns => .cons (.str n) (rp_strs ns)
section
variable {P : Program} {w : World} {K : PySem.W.Frag} {te : TE} {fe : EvE} {tt : TT} {ft : EvT}
theorem im_sc {wi : TI} {fw : EvW} {js vs : List Nat} {gg : TG} {ff : D → En → Option En} (hw : IW K wi fw) (hg : IG K js gg ff) (ht : IT K tt ft) (he : IE K te fe) (hj : ∀ j ∈ js, j ∈ vs) :
    IM K (tCB (rSortG P w) (tCons (tScS P w wi gg tt te vs) tNil)) (eSC vs fw ff ft fe) := by
  intro F T env σ H m env' S e Q k
  simp only [eSC, Option.bind_eq_some_iff] at e
  obtain ⟨⟨items, e1⟩, a1, e⟩ := e
  split at e
  · rename_i hlen
    have hlen : items.length ≤ 1000 := of_decide_eq_true hlen
    simp only [Option.bind_eq_some_iff, Option.map_eq_some_iff] at e
    obtain ⟨⟨ds, e2⟩, a2, cs, hcs, a3⟩ := e
    have hds := strsOf_all hcs
    subst hds
    obtain ⟨rfl, hee⟩ : m = .l ((sortT (unq cs)).map .str) ∧ e2 = env' := by cases a3; exact ⟨rfl, rfl⟩
    subst hee
    clear a3 hcs
    show tScS P w wi gg tt te vs σ H fun x H1 => rSortG P w [x] H1 Q
    refine hw F T env σ H items e1 S a1 _ fun J H1 S1 s1 jo p np => ?_
    have np0 : H p = none := by
      cases h : H p with
      | none => rfl
      | some o => exact absurd np (s1.ext.live p (by rw [h]; simp))
    have nF : F.H0 p = none := S1.fresh0 np
    refine ⟨fun i mm H3 => ∃ e' ks, StOk K F (fun a => T a ∨ a = p) H3 e' (wipe σ vs) ∧ (∀ (j : Nat) (s : Sl), e'[j]? = some (some s) → j ∉ vs) ∧ Ext (Wr e1 σ) H1 H3 ∧ (∀ a, Wr e' (wipe σ vs) a → Wr e1 σ a) ∧
        H3 p = some (SGO P w p (unq ks)) ∧ ks.length ≤ i ∧ mm = items.length - i ∧ i ≤ items.length ∧ compE vs ff ft fe (items.drop i) (ks.map .str) e' = some (cs.map .str, e2), ?_, ?_⟩
    · have S2 : StOk K F (fun a => T a ∨ a = p) (upd H1 p (SGO P w p [])) e1 σ := S1.new np
      have hre : ∀ (i : Nat) (s : Sl), (wipeE e1 vs)[i]? = some (some s) → e1[i]? = some (some s) ∧ (wipe σ vs)[i]? = σ[i]? := fun i s h => ⟨(wipeE_some h).1, wipe_out (wipeE_some h).2⟩
      exact ⟨_, wipeE e1 vs, [], S2.re (by rw [wipeE_len, wipe_length]; exact S1.len) hre, fun j s h => (wipeE_some h).2, Ext.new np, wr_re hre, upd_same, Nat.le_refl _, rfl, Nat.zero_le _, by simpa using a2⟩
    · rintro i mm H3 ⟨e', ks, S', hw', x', wr', hp', hki, rfl, hi, hc⟩
      obtain ⟨j1, j2⟩ := jo (Ow F (fun a => T a ∨ a = p) e' (wipe σ vs)) H3 (fun a o q n z => by
          rcases z with z | (z | z) | z
          · exact n (.inl z)
          · exact n (.inr (.inl z))
          · subst z; rw [np] at q; cases q
          · exact n (.inr (.inr (wr' a z)))) (fun a o n q => x'.same a o q fun z => n (.inr (.inr z))) (fun a h => S'.olive h)
      by_cases hlt : i < items.length
      · have gi : items[i]? = some items[i] := List.getElem?_eq_getElem hlt
        obtain ⟨go, yl⟩ := j1 i _ gi
        rw [List.drop_eq_getElem_cons hlt] at hc
        simp only [compE, Option.bind_eq_some_iff] at hc
        obtain ⟨e3, b1, ⟨b, e4⟩, b2, b3⟩ := hc
        refine .inr ⟨go, fun H5 => ∃ e' ks, StOk K F (fun a => T a ∨ a = p) H5 e' (wipe σ vs) ∧ (∀ (j : Nat) (s : Sl), e'[j]? = some (some s) → j ∉ vs) ∧ Ext (Wr e1 σ) H1 H5 ∧ (∀ a, Wr e' (wipe σ vs) a → Wr e1 σ a) ∧
          H5 p = some (SGO P w p (unq ks)) ∧ ks.length ≤ i + 1 ∧ i + 1 ≤ items.length ∧ compE vs ff ft fe (items.drop (i + 1)) (ks.map .str) e' = some (cs.map .str, e2), ?_, ?_⟩
        · rintro H5 ⟨e', ks, c1, c2, c3, c4, c5, c6, c7, c8⟩
          exact ⟨items.length - (i + 1), by omega, e', ks, c1, c2, c3, c4, c5, c6, rfl, c7, c8⟩
        intro x H4 hy
        obtain ⟨x2, rx⟩ := yl x H4 hy
        have S4 := S'.lay x2
        refine hg F _ e' (wipe σ vs) H4 x _ e3 S4 rx b1 _ fun σ5 S5 q5 l5 k5 n5 => ?_
        have hk5 : ∀ k, k ∉ vs → σ5[k]? = (wipe σ vs)[k]? := fun k hk => k5 k fun z => hk (hj k z)
        have wq : wipe σ5 vs = wipe σ vs := (wipe_eq l5 hk5).trans wipe_wipe
        have x4 : Ext (Wr e1 σ) H1 H4 := x'.trans x2 fun _ q => q.elim
        have w5 : ∀ a, Wr e3 σ5 a → Wr e1 σ a ∨ H4 a = none := fun a h => (q5.wr a h).imp (wr' a) id
        have w5' : ∀ a, Wr e3 σ5 a → Wr e1 σ a := fun a h => (w5 a h).elim id fun z => absurd z (S5.wlive h)
        refine ⟨wq, ht F _ e3 σ5 H4 b e4 S5 b2 _ fun H6 S6 s6 => ?_⟩
        have hp4 : H4 p = some (SGO P w p (unq ks)) := x2.same p _ hp' id
        have hp6 : H6 p = some (SGO P w p (unq ks)) := s6.ext.same p _ hp4 (S5.tno p (.inr rfl))
        have x6 : Ext (Wr e1 σ) H1 H6 := x4.trans s6.ext fun a q => .inl (w5' a q)
        have back : ∀ {e7 : En} {H7 : Hp} {k7 : List Str}, StOk K F (fun a => T a ∨ a = p) H7 e7 σ5 → (∀ a, Wr e7 σ5 a → Wr e1 σ a) → Ext (Wr e1 σ) H1 H7 → H7 p = some (SGO P w p (unq k7)) → k7.length ≤ i + 1 →
            compE vs ff ft fe (items.drop (i + 1)) (k7.map .str) (wipeE e7 vs) = some (cs.map .str, e2) →
            ∃ e' ks, StOk K F (fun a => T a ∨ a = p) H7 e' (wipe σ vs) ∧ (∀ (j : Nat) (s : Sl), e'[j]? = some (some s) → j ∉ vs) ∧ Ext (Wr e1 σ) H1 H7 ∧ (∀ a, Wr e' (wipe σ vs) a → Wr e1 σ a) ∧
              H7 p = some (SGO P w p (unq ks)) ∧ ks.length ≤ i + 1 ∧ i + 1 ≤ items.length ∧ compE vs ff ft fe (items.drop (i + 1)) (ks.map .str) e' = some (cs.map .str, e2) := by
          intro e7 H7 k7 S7 w7 x7 hp7 l7 c7
          have hre : ∀ (i : Nat) (s : Sl), (wipeE e7 vs)[i]? = some (some s) → e7[i]? = some (some s) ∧ (wipe σ vs)[i]? = σ5[i]? := fun i s h => ⟨(wipeE_some h).1, (hk5 i (wipeE_some h).2).symm⟩
          have wre := wr_re hre
          exact ⟨wipeE e7 vs, k7, S7.re (by rw [wipeE_len, wipe_length, S7.len, l5, wipe_length]) hre, fun j s h => (wipeE_some h).2, x7, fun a h => w7 a (wre a h), hp7, l7, hlt, c7⟩
        cases b with
        | false =>
          simp only [Bool.false_eq_true, if_false] at b3 ⊢
          exact back S6 (fun a h => w5' a (s6.wr a h)) x6 hp6 (by omega) b3
        | true =>
          simp only [if_true, Option.bind_eq_some_iff] at b3 ⊢
          obtain ⟨⟨r, e7⟩, b4, d, b5, b6⟩ := b3
          split at b6
          · refine he F _ e4 σ5 H6 r e7 S6 b4 _ fun y H7 S7 s7 ry => ?_
            have hp7 : H7 p = some (SGO P w p (unq ks)) := s7.ext.same p _ hp6 (S6.tno p (.inr rfl))
            have ry7 := rk_ok S7 ry b5
            obtain ⟨rest, hrest⟩ := compE_pre _ _ _ _ _ b6
            obtain ⟨c, rfl⟩ := pre_str hrest
            have yc : y = .str c := Rp.scS ry7
            subst yc
            have ku := unq_len ks
            refine ⟨c, unq ks, rfl, hp7, by unfold scanBound; omega, ?_⟩
            have x7 : Ext (Wr e1 σ) H1 H7 := x6.trans s7.ext fun a q => .inl (w5' a (s6.wr a q))
            have x8 : Ext (Wr e1 σ) H1 (upd H7 p (SGO P w p (addU (unq ks) c))) := ⟨fun a u q n => by
                rw [upd_ne (ne_of_none q np)]; exact x7.same a u q n, fun a q => by
                by_cases z : a = p
                · subst z; rw [upd_same]; simp
                · rw [upd_ne z]; exact x7.live a q⟩
            have S8 : StOk K F (fun a => T a ∨ a = p) (upd H7 p (SGO P w p (addU (unq ks) c))) e7 σ5 := S7.updT (.inr rfl) nF
            exact back (k7 := ks ++ [c]) S8 (fun a h => w5' a (s6.wr a (s7.wr a h))) x8 (by rw [upd_same, unq_snoc]) (by rw [List.length_append, List.length_singleton]; omega) (by rw [List.map_append]; exact b6)
          · cases b6
      · have ei : i = items.length := by omega
        subst ei
        rw [List.drop_length] at hc
        have hc' : some (ks.map PyData.str, e') = some (cs.map PyData.str, e2) := hc
        obtain ⟨hk, rfl⟩ := Prod.mk.inj (Option.some.inj hc')
        have hkc : ks = cs := by
          have := congrArg strsOf hk
          rw [strsOf_map, strsOf_map] at this
          exact Option.some.inj this
        subst hkc
        refine .inl ⟨j2 _ (Nat.le_refl _), ?_⟩
        have hre : ∀ (i : Nat) (s : Sl), e'[i]? = some (some s) → e'[i]? = some (some s) ∧ σ[i]? = (wipe σ vs)[i]? := fun i s h => ⟨h, (wipe_out (hw' i s h)).symm⟩
        have S9 : StOk K F (fun a => T a ∨ a = p) H3 e' σ := S'.re (by rw [S'.len, wipe_length]) hre
        have ku := unq_len ks
        refine ⟨p, unq ks, rfl, hp', by omega, unq_nodup ks, fun b nb => ?_⟩
        have nb1 : H1 b = none := by
          cases h : H1 b with
          | none => rfl
          | some o => exact absurd nb (x'.live b (by rw [h]; simp))
        have nb0 : H b = none := by
          cases h : H b with
          | none => rfl
          | some o => exact absurd nb1 (s1.ext.live b (by rw [h]; simp))
        exact k b _ nb0 ((S9.anti fun a h => .inl h).new nb) ((s1.trans ⟨x', fun a h => wr' a (wr_re hre a h)⟩).trans (Stp.new nb)) ⟨(sortT (unq ks)).map V.str, upd_same, rp_strs _⟩
  · cases e
end
end GD

/-! equations for sorted({..}); sorted of a list of different texts -/
namespace GD
open PySem PySem.Spec PyProof.Rows L2
section
variable {env e : En} {fw : EvW} {tg : D → En → Option En} {ft : EvT} {fe : EvE} {ds : List D} {vs : List Nat}
def scR3 (e : En) : Option (List Str) → Option (Mu × En)
  | some cs => some (.l ((sortT (unq cs)).map .str), e)
  | none => none
def scR2 : Option (List D × En) → Option (Mu × En)
  | some (ds, e) => scR3 e (strsOf ds)
  | none => none
def scR1 (vs : List Nat) (tg : D → En → Option En) (ft : EvT) (fe : EvE) (ds : List D) (e : En) : Bool → Option (Mu × En)
  | true => scR2 (compE vs tg ft fe ds [] (wipeE e vs))
  | false => none
def scR (vs : List Nat) (tg : D → En → Option En) (ft : EvT) (fe : EvE) : Option (List D × En) → Option (Mu × En)
  | some (ds, e) => scR1 vs tg ft fe ds e (decide (ds.length ≤ 1000))
  | none => none
theorem q_sc : eSC vs fw tg ft fe env = scR vs tg ft fe (fw env) := by
  unfold eSC; cases h : fw env with
  | none => rfl
  | some p =>
    simp only [Option.bind_some, scR]
    cases hd : decide (p.1.length ≤ 1000) with
    | false => simp only [Bool.false_eq_true, if_false, scR1]
    | true =>
      simp only [if_true, scR1]
      cases compE vs tg ft fe p.1 [] (wipeE p.2 vs) with
      | none => rfl
      | some q =>
        simp only [Option.bind_some, scR2]
        cases strsOf q.1 <;> rfl
theorem q_sc1 : scR vs tg ft fe (some (ds, e)) = scR1 vs tg ft fe ds e (decide (ds.length ≤ 1000)) := rfl
theorem q_sc2 : scR1 vs tg ft fe ds e true = scR2 (compE vs tg ft fe ds [] (wipeE e vs)) := rfl
theorem q_sc3 : scR2 (some (ds, e)) = scR3 e (strsOf ds) := rfl
theorem q_sc4 {cs : List Str} : scR3 e (some cs) = some (.l ((sortT (unq cs)).map .str), e) := rfl
end
section
variable {K : PySem.W.Frag}
def cSrtS : List D → Option Mu
  | [.list ds] => if decide (ds.length < 64) = true then (strsOf ds).bind fun cs => if decide cs.Nodup = true then some (.l ((sortT cs).map .str)) else none else none
  | _ => none
theorem cm_srtS : CaM K (rSortedS K) cSrtS := by
  intro O H xs ds z hO l hz Q q
  match ds, hz, l with
  | [.list es], hz, l =>
    simp only [cSrtS] at hz
    split at hz
    · rename_i hlen
      have hlen : es.length < 64 := of_decide_eq_true hlen
      simp only [Option.bind_eq_some_iff] at hz
      obtain ⟨cs, h1, h2⟩ := hz
      split at h2
      · rename_i hnd
        have hnd : cs.Nodup := of_decide_eq_true hnd
        cases h2
        obtain ⟨v, rfl, a, ys, rfl, s1, r1⟩ := LvAll.one l
        have ex := strsOf_ok r1 h1
        subst ex
        have hnl : cs.length < 64 := by have := r1.length; rw [List.length_map] at this; omega
        refine ⟨a, cs, rfl, .inl (.inl s1), hnl, fun ls p hp hs np => ?_⟩
        have e := sorted_is hs hp hnd
        subst e
        exact q p _ np (ext_new np) (new_lst np (rp_strs _))
      · cases h2
    · cases hz
theorem c_srtS {cs : List Str} (h : cs.length < 64) (hn : cs.Nodup) : cSrtS [.list (cs.map .str)] = some (.l ((sortT cs).map .str)) := by
  have hl : decide ((cs.map PyData.str).length < 64) = true := decide_eq_true (by rw [List.length_map]; exact h)
  simp only [cSrtS, hl, if_true, strsOf_map, Option.bind_some, decide_eq_true hn]
end
end GD

/-! list(range(n)) as one word -/
namespace GD
open PySem PySem.Spec PyProof.Rows L2
def RngO (a : Addr) (n : Int) : HO := .ext fun h => ∃ t u v, IsRange h a 0 n 1 t u v
theorem rngO_new {P : Program} {w : World} {H : Hp} {h : Heap} {a : Addr} {n : Int} {t u v : Tok} (r : IsRange h a 0 n 1 t u v) : ObjOk P w H h a (RngO a n) :=
  ⟨⟨t, u, v, r⟩, ⟨_, r⟩, fun h1 h2 p k => let ⟨t, u, v, q⟩ := p; ⟨t, u, v, k _ q⟩⟩
theorem vals_range : ∀ (us : List Value) (f : Nat → Int), (∀ (j : Nat) (v : Value), us[j]? = some v → ∃ t, v = Value.int (f j) t) → Vals ((List.range us.length).map fun i => V.int (f i)) us
  | [], f, _ => .nil
  | u :: us, f, h => by
    have ih := vals_range us (fun i => f (i + 1)) fun j v hv => h (j + 1) v (by simpa using hv)
    rw [List.length_cons, List.range_succ_eq_map, List.map_cons, List.map_map]
    exact .cons (h 0 u rfl) ih
section
variable {X : Cx}
def rRng : List V → Hp → VK → Prop := fun vs H Q => ∃ n : Int, vs = [V.int n] ∧ ∀ p, H p = none → Q (.ref p) (upd H p (RngO p n))
theorem cr_rng : CallR X (.type "range") rRng := by
  intro pins s σ H vs us Q I r h
  obtain ⟨n, rfl, q⟩ := h
  obtain ⟨u, rfl, t, rfl⟩ : ∃ u, us = [u] ∧ ∃ t, u = Value.int n t := by
    obtain ⟨u, hu, ru⟩ := r.one
    obtain ⟨t, ht⟩ := (show ∃ t, u = Value.int n t from ru)
    exact ⟨u, hu, t, ht⟩
  refine call_range_1 ?_
  exact ⟨.ref s.heap.objs.size, _, I.laid (fun b o e => Heap.get?_push_of_some _ e) (Nat.le_refl _) (rngO_new (IsRange.new s.heap 0 n 1 s.toks t (s.toks + 1))), rfl, q _ (I.hok.fresh (Nat.le_refl _))⟩
def rangeV (n : Int) : List V := (List.range n.toNat).map fun i : Nat => V.int (i : Int)
def rLRng : List V → Hp → VK → Prop := fun vs H Q => ∃ (a : Addr) (n : Int), vs = [V.ref a] ∧ H a = some (RngO a n) ∧ 0 ≤ n ∧ n ≤ 100000 ∧ ∀ p, H p = none → Q (.ref p) (upd H p (.lst (rangeV n)))
theorem cr_lrng (hc : X.calm = true) : CallR X (.type "list") rLRng := by
  intro pins s σ H vs us Q I r h
  obtain ⟨a, n, rfl, ha, h0, h1, q⟩ := h
  rw [Vals.ref1 r]
  obtain ⟨⟨t, u, v, hr⟩, _⟩ := I.hok a _ ha
  have hsz : Builtin.Range.rangeSize 0 n 1 = (n.toNat : Int) := by rw [rangeSize_one]; split <;> omega
  have fl : ∀ x : Int, -1 ≤ x → x ≤ 200000 → Builtin.Range.rangeFitsLong x = true := fun x a b => by
    unfold Builtin.Range.rangeFitsLong
    simp only [Bool.and_eq_true, decide_eq_true_eq]
    omega
  have hsm : Builtin.Range.small 0 n 1 = true := by
    unfold Builtin.Range.small
    rw [hsz, fl 0 (by omega) (by omega), fl n (by omega) (by omega), fl 1 (by omega) (by omega), fl _ (by omega) (by omega), if_pos (by decide), fl _ (by omega) (by omega)]
    simp
  refine call_list_range (n := n.toNat) (I.ok.hd hc) hr hsm hsz (by omega) fun h' tk acc c kp hob his => ?_
  have hv : Vals (rangeV n) acc.toList := by
    unfold rangeV
    have hlen : acc.toList.length = n.toNat := by rw [Array.length_toList]; exact his.1
    have := vals_range acc.toList (fun i => (i : Int)) fun j v hv => by
      obtain ⟨t, ht⟩ := his.2 j v (by rw [← Array.getElem?_toList]; exact hv)
      exact ⟨t, by rw [ht]; simp⟩
    rw [hlen] at this
    exact this
  exact ⟨.ref s.heap.objs.size, upd H s.heap.objs.size (.lst (rangeV n)), I.laid (t' := tk) kp (Nat.le_refl _) ⟨by unfold rangeV; rw [List.length_map, List.length_range, sizeLine_eq]; omega, acc.toList, c, hv, hob⟩, rfl, q _ (I.hok.fresh (Nat.le_refl _))⟩
def rLR : List V → Hp → VK → Prop := fun vs H Q => rRng vs H fun v H1 => rLRng [v] H1 Q
theorem pe_lrange {e : Expr} {t : TA} {p1 p2 p3 p4 : Pos} (hc : X.calm = true) (hg : Gl X "list") (hm : X.mg "list" = none) (hg2 : Gl X "range") (hm2 : X.mg "range" = none) (ha : PA X [e] t)
    (he : starEach [e] X.env = (false, eval e X.env) :: starEach [] X.env := by rfl) (hpl : (backTo p3 (starEach ([] : List Expr) X.env)).any (·.1) = false := by rfl)
    (he2 : starEach [.Call (.Name "range" p2) [e] [] p3] X.env = (false, eval (.Call (.Name "range" p2) [e] [] p3) X.env) :: starEach [] X.env := by rfl) (hpl2 : (backTo p4 (starEach ([] : List Expr) X.env)).any (·.1) = false := by rfl) :
    PE X (.Call (.Name "list" p1) [.Call (.Name "range" p2) [e] [] p3] [] p4) (tCB rLR t) :=
  ⟨fun pins s σ H Q I h => (pe_callTy (cr_lrng hc) hg hm boot_list (pa_cons (pe_callTy cr_rng hg2 hm2 (by decide +kernel) ha (he := he) (hpl := hpl)) pa_nil) (he := he2) (hpl := hpl2)).run pins s σ H Q I h⟩
def cLRng : List D → Option Mu
  | [.int n] => if decide (0 ≤ n ∧ n ≤ 100000) = true then some (.l (rangeD 0 n.toNat)) else none
  | _ => none
theorem rp_range {K : PySem.W.Frag} {O : Addr → Prop} {H : Hp} (n : Int) : RpAll K O H (rangeV n) (rangeD 0 n.toNat) := by
  have e : rangeV n = ((List.range n.toNat).map fun i : Nat => (i : Int)).map V.int := by unfold rangeV; rw [List.map_map]; rfl
  have e2 : rangeD 0 n.toNat = ((List.range n.toNat).map fun i : Nat => (i : Int)).map PyData.int := by
    unfold rangeD
    rw [List.map_map]
    exact List.map_congr_left fun i _ => by show PyData.int (0 + (i : Int)) = PyData.int (i : Int); rw [Int.zero_add]
  rw [e, e2]
  exact rp_ints _
theorem cm_lrng {K : PySem.W.Frag} : CaM K rLR cLRng := by
  intro O H xs ds z hO l hz Q q
  match ds, hz, l with
  | [.int n], hz, l =>
    simp only [cLRng] at hz
    split at hz
    · rename_i hn
      have hn := of_decide_eq_true hn
      cases hz
      obtain ⟨v, rfl, h⟩ := LvAll.one l
      cases Rp.sc h
      refine ⟨n, rfl, fun p np => ⟨p, n, rfl, upd_same, hn.1, hn.2, fun b nb => ?_⟩⟩
      have nb0 : H b = none := by
        by_cases hb : b = p
        · subst hb; exact np
        · rw [upd_ne hb] at nb; exact nb
      exact q b _ nb0 ((ext_new np).trans (ext_new nb) fun _ h => h.elim) (new_lst nb (rp_range n))
    · cases hz
theorem c_lrng {n : Int} (h : 0 ≤ n) (h2 : n ≤ 100000) : cLRng [.int n] = some (.l (rangeD 0 n.toNat)) := if_pos (decide_eq_true ⟨h, h2⟩)
end
end GD

/-! isinstance(x, (A, B)) -/
namespace GD
open PySem PySem.Spec PyProof.Rows L2
section
variable {K : PySem.W.Frag}
theorem lv_new {O : Addr → Prop} {H : Hp} {x : V} {d : D} {p : Addr} {o : HO} (np : H p = none) (l : Lv K O H x d) : Lv K O (upd H p o) x d := by
  cases d with
  | list ds =>
    obtain ⟨a, xs, rfl, h, r⟩ := l
    exact ⟨a, xs, rfl, by rw [upd_ne (ne_of_none h np)]; exact h, r.upd np⟩
  | none => exact (show Rp K O H x _ from l).upd np
  | bool b => exact (show Rp K O H x _ from l).upd np
  | int i => exact (show Rp K O H x _ from l).upd np
  | str y => exact (show Rp K O H x _ from l).upd np
  | tuple ds => exact (show Rp K O H x _ from l).upd np
  | dict ds =>
    rcases l with ⟨a, kvs, es, rfl, h, r, e⟩ | ⟨a, dx, C, nm, f, y, d, rfl, c, h, h2, r, e⟩
    · exact .inl ⟨a, kvs, es, rfl, rd_tr (fun o q => by rw [upd_ne (ne_of_none q np)]; exact q) h, r.upd np, e⟩
    · exact .inr ⟨a, dx, C, nm, f, y, d, rfl, c, by rw [upd_ne (ne_of_none h np)]; exact h, by rw [upd_ne (ne_of_none h2 np)]; exact h2, r.upd np, e⟩
def orB : Option Bool → Option Bool → Option Bool
  | some true, _ => some true
  | some false, b => b
  | none, _ => none
def isjS (e : En) : Option Bool → Option (R × En)
  | some b => some (.val (.bool b), e)
  | none => none
def isjR (k k2 : D → Option Bool) : Option (D × En) → Option (R × En)
  | some (d, e) => isjS e (orB (k d) (k2 d))
  | none => none
def eIsi2 (k k2 : D → Option Bool) (fe : EvE) : EvE := fun env => (e1 fe env).bind fun p => (orB (k p.1) (k2 p.1)).map fun b => (.val (.bool b), p.2)
theorem orB_any {A B : String} {t : Value} {a b : Option Bool} {c : Bool} (ha : ∀ x, a = some x → PySem.W.kitOne K t (.type A) = some x) (hb : ∀ x, b = some x → PySem.W.kitOne K t (.type B) = some x) (h : orB a b = some c) : PySem.W.kitAny K t [.type A, .type B] = some c := by
  cases a with
  | none => cases h
  | some x =>
    have h1 := ha x rfl
    cases x with
    | true =>
      cases h
      unfold PySem.W.kitAny
      rw [h1]
    | false =>
      cases b with
      | none => cases h
      | some y =>
        have h2 := hb y rfl
        cases h
        unfold PySem.W.kitAny
        rw [h1]
        show PySem.W.kitAny K t [.type B] = _
        unfold PySem.W.kitAny
        rw [h2]
        cases c <;> rfl
theorem orB_no {d : D} {P : Bool → Prop} {a b : Option Bool} {c : Bool} (ha : ∀ x, a = some x → isExc d = false ∧ P x) (h : orB a b = some c) : isExc d = false := by
  cases a with
  | none => cases h
  | some x => exact (ha x rfl).1
theorem ie_isi2 {A B : String} {te : TE} {fe : EvE} {k k2 : D → Option Bool} (hk : ∀ d b, k d = some b → isExc d = false ∧ PySem.W.kitOne K (.type (tyName d)) (.type A) = some b) (hk2 : ∀ d b, k2 d = some b → isExc d = false ∧ PySem.W.kitOne K (.type (tyName d)) (.type B) = some b) (he : IE K te fe) :
    IE K (tCB (rIsiT K) (tCons te (tCons (tTup (tCons (tC (.ty A)) (tCons (tC (.ty B)) tNil))) tNil))) (eIsi2 k k2 fe) := by
  intro F T' env σ H r env' S e Q q
  simp only [eIsi2, Option.bind_eq_some_iff, Option.map_eq_some_iff] at e
  obtain ⟨⟨d, e1⟩, h1, b, h2, h3⟩ := e
  cases h3
  refine i1 he S h1 fun x H' S' st l => ⟨by show 2 ≤ sizeLine; rw [sizeLine_eq]; decide, fun p np => ?_⟩
  refine ⟨x, p, [.ty A, .ty B], .type (tyName d), [.type A, .type B], b, rfl, upd_same, .cons (.ty A) (.cons (.ty B) .nil), lv_ty (orB_no (hk d) h2) (lv_new np l), orB_any (fun x e => (hk d x e).2) (fun x e => (hk2 d x e).2) h2, ?_⟩
  exact q _ _ (S'.lay (ext_new np)) (st.trans (Stp.lay (ext_new np))) (.bl _)
theorem q_isj {fe : EvE} {k k2 : D → Option Bool} {env : En} : eIsi2 k k2 fe env = isjR k k2 (e1 fe env) := by
  unfold eIsi2 isjR
  cases e1 fe env with
  | none => rfl
  | some p =>
    simp only [Option.bind_some]
    cases orB (k p.1) (k2 p.1) <;> rfl
theorem q_isj1 {k k2 : D → Option Bool} {d : D} {e : En} : isjR k k2 (some (d, e)) = isjS e (orB (k d) (k2 d)) := rfl
theorem q_isj2 {e : En} {b : Bool} : isjS e (some b) = some (.val (.bool b), e) := rfl
end
end GD

/-! `is not` of truth values -/
namespace GD
open PySem PySem.Spec PyProof.Rows L2
section
variable {K : PySem.W.Frag}
def dNotB : D → D → Option D
  | .bool a, .bool b => some (.bool (!decide (a = b)))
  | _, _ => none
theorem od_notB : OpD K rNotB dNotB := by
  intro O H x y d e z hO l1 l2 hz Q q
  match d, e, hz, l1, l2 with
  | .bool a, .bool b, hz, l1, l2 =>
    cases hz
    cases Rp.scB (show Rp K O H x (.bool a) from l1)
    cases Rp.scB (show Rp K O H y (.bool b) from l2)
    exact ⟨a, b, rfl, rfl, q _ H Ext.refl (.bl _)⟩
theorem c_notB {a b : Bool} : dNotB (.bool a) (.bool b) = some (.bool (!decide (a = b))) := rfl
end
end GD

/-! try that nothing leaves; insert at the front; sorted(set(l)) of a list of texts -/
namespace GD
open PySem PySem.Spec PyProof.Rows L2
theorem ps_try0 {X : Cx} {body : List Stmt} {h₀ : ExceptHandler} {hs : List ExceptHandler} {pos : Pos} {t : TS} (hn : ∀ e s, ¬ X.xe e s) (hb : PSs X body t) : PS X (.Try body (h₀ :: hs) [] [] pos) t :=
  ps_try_never (u := tNext) hn hb pss_nil
section
variable {K : PySem.W.Frag}
def rIns0 : V → List V → Hp → VK → Prop := fun x vs H Q => ∃ l v xs, x = .ref l ∧ vs = [.int 0, v] ∧ H l = some (.lst xs) ∧ xs.length + 1 ≤ sizeLine ∧ Q .non (upd H l (.lst (v :: xs)))
theorem mt_ins0 {X : Cx} : MtM X "list.insert" rIns0 := by
  intro pins s σ H x vs v us Q I rx rv h
  obtain ⟨l, w, xs, rfl, rfl, hx, hn, q⟩ := h
  cases rx
  obtain ⟨u0, u, rfl, ⟨t0, rfl⟩, ru⟩ := rv.two
  obtain ⟨z, its, n, r, el, e⟩ := I.lstM hx
  have hl := r.length
  refine call_meets PySem.F.slot_list_insert ⟨_, e, rfl⟩ PySem.F.entry_list_insert (PySem.F.args_list_insert_3 _ _ _) (PySem.AutoSeq1.list_insert_list_int_val_1 l _ n 0 _ u (by decide) (by rw [List.size_toArray]; omega)) ⟨e, ?_⟩
  exact ⟨.non, _, I.lset (its' := u :: its) hx e (by simp) (.cons ru r) (by rw [List.length_cons]; omega), rfl, q⟩
def gIns0 : Mu → List D → Option (Mu × D)
  | .l ds, [.int 0, d] => if small (ds.length + 1) = true then some (.l (d :: ds), .none) else none
  | _, _ => none
theorem md_ins0 : MtD K "list" rIns0 gIns0 := by
  intro O H a m vs ds m' z ha mu r hz Q q
  match m, ds, hz, r with
  | .l es, [.int 0, d], hz, .cons r0 (.cons r1 .nil) =>
    simp only [gIns0] at hz
    split at hz
    · rename_i hs
      cases hz
      cases Rp.sc r0
      obtain ⟨xs, e, rr⟩ := mu
      have hs' := small_le hs
      refine ⟨a, _, xs, rfl, rfl, e, by rw [rr.length]; exact hs', q _ _ ⟨_, upd_same, ?_⟩ .non⟩
      exact (RpAll.cons r1 rr).tr (fun _ _ _ n => n) fun b u n q => by rw [upd_ne (fun z => n (by subst z; exact ha))]; exact q
    · cases hz
theorem c_ins0 {ds : List D} {d : D} (h : ds.length + 1 ≤ 1000000) : gIns0 (.l ds) [.int 0, d] = some (.l (d :: ds), .none) := if_pos (decide_eq_true h)
end
section
variable {X : Cx}
theorem strs_get : ∀ {cs : List Str} {us : List Value}, StrsAre us cs → ∀ (i : Nat) (v : Value), us[i]? = some v → ∃ (k : Str) (t : Tok), cs[i]? = some k ∧ v = Value.str k t
  | [], _, .nil, i, v, h => by cases i <;> cases h
  | c :: cs, _, .cons _ t r, 0, v, h => by
    cases h
    exact ⟨c, t, rfl, rfl⟩
  | c :: cs, _, .cons _ t r, i + 1, v, h => strs_get r i v h
def rSetT (K : PySem.W.Frag) (P : Program) (w : World) : List V → Hp → VK → Prop := fun vs H Q => ∃ (a : Addr) (cs : List Str), vs = [V.ref a] ∧ SqL K H a (cs.map V.str) ∧ cs.length ≤ 1000 ∧
  ∀ (p : Addr), H p = none → Q (.ref p) (upd H p (SGO P w p (unq cs)))
theorem cr_setT (hc : X.calm = true) : CallR X (.type "set") (rSetT X.K X.prog X.w) := by
  intro pins s σ H vs us Q I r h
  obtain ⟨a, cs, rfl, hS, hn, q⟩ := h
  rw [Vals.ref1 r]
  obtain ⟨its, rv, il, hz⟩ := I.list hS
  obtain ⟨o, n, ho, hcl, _, hda⟩ := il
  have sa := Vals.strs rv
  have hlen : its.length = cs.length := by have := rv.length; rw [List.length_map] at this; omega
  refine set_of_keys (kd := PySem.strKind X.prog X.w) (kf := kfS) cs kfS_is (I.ok.hd hc) ⟨o, ho, hcl, n, hda⟩ (by rw [List.size_toArray]; exact hlen) (fun i v hv => ?_) (by unfold scanBound; omega) fun h' tk R kp => ?_
  · obtain ⟨k, t, hk, rfl⟩ := strs_get sa i v (by simpa using hv)
    exact ⟨k, hk, (by show Value.isStrOf k (.str k t) = true; simp [Value.isStrOf]), rfl⟩
  exact ⟨.ref s.heap.objs.size, _, I.laid (t' := tk) kp (Nat.le_refl _) (sgo_new R), rfl, q _ (I.hok.fresh (Nat.le_refl _))⟩
def rSST (K : PySem.W.Frag) (P : Program) (w : World) : List V → Hp → VK → Prop := fun vs H Q => rSetT K P w vs H fun v H1 => rSortG P w [v] H1 Q
theorem pe_ssetT {e : Expr} {t : TA} {p1 p2 p3 p4 : Pos} (hc : X.calm = true) (hg : Gl X "sorted") (hm : X.mg "sorted" = none) (hg2 : Gl X "set") (hm2 : X.mg "set" = none) (ha : PA X [e] t)
    (he : starEach [e] X.env = (false, eval e X.env) :: starEach [] X.env := by rfl) (hpl : (backTo p3 (starEach ([] : List Expr) X.env)).any (·.1) = false := by rfl)
    (he2 : starEach [.Call (.Name "set" p2) [e] [] p3] X.env = (false, eval (.Call (.Name "set" p2) [e] [] p3) X.env) :: starEach [] X.env := by rfl) (hpl2 : (backTo p4 (starEach ([] : List Expr) X.env)).any (·.1) = false := by rfl) :
    PE X (.Call (.Name "sorted" p1) [.Call (.Name "set" p2) [e] [] p3] [] p4) (tCB (rSST X.K X.prog X.w) t) :=
  ⟨fun pins s σ H Q I h => (pe_callB (cr_sortG hc) hg hm boot_sorted (pa_cons (pe_callTy (cr_setT hc) hg2 hm2 boot_set ha (he := he) (hpl := hpl)) pa_nil) (he := he2) (hpl := hpl2)).run pins s σ H Q I h⟩
variable {K : PySem.W.Frag} {P : Program} {w : World}
def cSSetT : List D → Option Mu
  | [.list ds] => if decide (ds.length ≤ 1000) = true then (strsOf ds).map fun cs => .l ((sortT (unq cs)).map .str) else none
  | _ => none
theorem cm_ssetT : CaM K (rSST K P w) cSSetT := by
  intro O H xs ds z hO l hz Q q
  match ds, hz, l with
  | [.list es], hz, l =>
    simp only [cSSetT] at hz
    split at hz
    · rename_i hlen
      have hlen : es.length ≤ 1000 := of_decide_eq_true hlen
      simp only [Option.map_eq_some_iff] at hz
      obtain ⟨cs, h1, rfl⟩ := hz
      obtain ⟨v, rfl, a, ys, rfl, s1, r1⟩ := LvAll.one l
      have ex := strsOf_ok r1 h1
      subst ex
      have hnl : cs.length ≤ 1000 := by have := r1.length; rw [List.length_map] at this; omega
      refine ⟨a, cs, rfl, .inl (.inl s1), hnl, fun p np => ⟨p, _, rfl, upd_same, by have := unq_len cs; omega, unq_nodup cs, fun b nb => ?_⟩⟩
      have nb0 : H b = none := by
        by_cases hb : b = p
        · subst hb; exact np
        · rw [upd_ne hb] at nb; exact nb
      exact q b _ nb0 ((ext_new np).trans (ext_new nb) fun _ h => h.elim) (new_lst nb (rp_strs _))
    · cases hz
theorem c_ssetT {cs : List Str} (h : cs.length ≤ 1000) : cSSetT [.list (cs.map .str)] = some (.l ((sortT (unq cs)).map .str)) := by
  have hl : decide ((cs.map PyData.str).length ≤ 1000) = true := decide_eq_true (by rw [List.length_map]; exact h)
  simp only [cSSetT, hl, if_true, strsOf_map, Option.map_some]
end
end GD

/-! a text in a list of texts, of any signs -/
namespace GD
open PySem PySem.Spec PyProof.Rows L2
section
variable {K : PySem.W.Frag}
def dInLT : D → D → Option D
  | .str i, .list ds => (strsOf ds).map fun bs => .bool (inV (.str i) (bs.map V.str))
  | _, _ => none
theorem od_inLT : OpD K (rIn K false) dInLT := by
  intro O H x y d e z hO l1 l2 hz Q q
  match d, e, hz, l1, l2 with
  | .str i, .list ds, hz, l1, l2 =>
    simp only [dInLT, Option.map_eq_some_iff] at hz
    obtain ⟨bs, hb, rfl⟩ := hz
    cases Rp.scS l1
    obtain ⟨a, xs, rfl, h, r⟩ := l2
    cases strsOf_ok r hb
    exact ⟨a, _, rfl, .inl (.inl (.inl h)), rfl, by induction bs <;> simp_all [flatV], q _ H Ext.refl (.bl _)⟩
theorem c_inLT {x : Str} (ys : List Str) : dInLT (.str x) (.list (ys.map .str)) = some (.bool (ys.any fun y => decide (y = x))) := by
  show (strsOf (ys.map .str)).map (fun bs => PyData.bool (inV (.str x) (bs.map V.str))) = _
  rw [strsOf_map, Option.map_some, inV_strs]
end
end GD

set_option maxHeartbeats 4000000
/-! xs[::-1] of a list -/
namespace GD
open PySem PySem.Spec PyProof.Rows L2
def tRvL (K : PySem.W.Frag) (te : TE) : TE := fun σ H Q => te σ H fun x H1 => ∃ a xs, x = .ref a ∧ SqL K H1 a xs ∧ xs.length ≤ sizeLine ∧ ∀ p, H1 p = none → Q (.ref p) (upd H1 p (.lst xs.reverse))
section
variable {X : Cx}
theorem pe_rvL {e : Expr} {te : TE} {k : Nat} {p1 p2 p3 pos : Pos} (he : PE X e te) : PE X (.Subscript e (.Slice none none (some (.UnaryOp .USub (.Constant (.int 1) k p1) p2)) p3) pos) (tRvL X.K te) := by
  refine ⟨fun pins s σ H Q I h => ?_⟩
  refine Subscript_ (thn (he.run pins s σ H _ I h) fun v s1 ⟨x, H1, I1, r1, q1⟩ => ?_)
  obtain ⟨a, xs, ex, hx, hn, q⟩ := q1
  subst ex
  cases r1
  have hst : PO X (some (.UnaryOp .USub (.Constant (.int 1) k p1) p2)) (tPart (tUn (rU fun i => .int (-i)) (tC (.int 1)))) := po_some (pe_un un_neg pe_int)
  refine wpAny_Slice (thn (po_none.run pins s1 σ H1 (fun o H2 => o = none ∧ H2 = H1) I1 ⟨rfl, rfl⟩) fun vl s2 ⟨l, H2, I2, pl, el, e2⟩ => ?_)
  subst el e2
  refine thn (po_none.run pins s2 σ H2 (fun o H3 => o = none ∧ H3 = H2) I2 ⟨rfl, rfl⟩) fun vu s3 ⟨u, H3, I3, pu, eu, e3⟩ => ?_
  subst eu e3
  refine thn (hst.run pins s3 σ H3 (fun o H4 => o = some (-1) ∧ H4 = H3) I3 ⟨1, rfl, -1, rfl, rfl, rfl⟩) fun vs s4 ⟨o, H4, I4, ps, eo, e4⟩ => ?_
  subst eo e4
  cases pl
  cases pu
  have I5 : Inv X pins σ H4 { s4 with heap := s4.heap.push { cls := .type "slice", data := .fields #[.none, .none, vs] } } := I4.kept (t' := s4.toks) fun b ob q => Heap.get?_push_of_some _ q
  obtain ⟨its, r, ht, hz⟩ := I5.list hx
  have hlen := r.length
  show wpAny (model X.prog X.w) X.A (subscriptTail e (.Slice none none (some (.UnaryOp .USub (.Constant (.int 1) k p1) p2)) p3) (.ref a) (.ref s4.heap.objs.size)) (EP X pins σ Q) X.xe { s4 with heap := s4.heap.push { cls := .type "slice", data := .fields #[.none, .none, vs] } }
  refine tail_any (ops := [.ref a, .ref s4.heap.objs.size]) ht.isList.typeIs slot_list_getitem.lookup ?_ (by with_unfolding_all rfl)
  refine wpAny_getItem_list_slice ht.isList (Heap.IsSliceOf.new _ .none .none vs) .none .none ps (by decide) ?_ (by rw [List.size_toArray]; omega)
  rw [PySem.W.krv_pick]
  refine ⟨.ref _, _, I5.laid (t' := s4.toks) (o := .lst xs.reverse) (fun b ob q => Heap.get?_push_of_some _ q) (Nat.le_refl _) ?_, rfl, q _ (I5.hok.fresh (Nat.le_refl _))⟩
  exact ⟨by rw [List.length_reverse]; exact hz, _, 0, r.reverse, Heap.get?_push_size _ rfl⟩
end
section
variable {K : PySem.W.Frag}
def revM : D → Option Mu
  | .list ds => if small ds.length = true then some (.l ds.reverse) else none
  | _ => none
def eRevL (fe : EvE) : EvM := fun env => (e1 fe env).bind fun p => (revM p.1).map fun z => (z, p.2)
theorem im_rvL {te : TE} {fe : EvE} (he : IE K te fe) : IM K (tRvL K te) (eRevL fe) := by
  intro F T env σ H r env' S e Q q
  simp only [eRevL, Option.bind_eq_some_iff, Option.map_eq_some_iff] at e
  obtain ⟨⟨d, e1⟩, h1, z, h2, h3⟩ := e
  cases h3
  refine i1 he S h1 fun x H1 S1 s1 l1 => ?_
  match d, h2, l1 with
  | .list ds, h2, l1 =>
    simp only [revM] at h2
    split at h2
    · rename_i hs
      cases h2
      obtain ⟨a, xs, rfl, hx, ra⟩ := l1
      have hlen := ra.length
      refine ⟨a, xs, rfl, .inl (.inl hx), by rw [hlen]; exact small_le hs, fun p np => ?_⟩
      have x2 : Ext (fun _ => False) H1 (upd H1 p (.lst xs.reverse)) := Ext.new np
      have n0 : H p = none := by
        cases h : H p with
        | none => rfl
        | some o => exact absurd np (s1.ext.live p (by rw [h]; simp))
      exact q _ _ n0 (S1.lay1 np x2 (by rw [upd_same]; simp)) (s1.trans (Stp.lay x2)) ⟨xs.reverse, upd_same, owp np x2 (RpAll.reverse ra)⟩
    · cases h2
def revMR (e : En) : Option Mu → Option (Mu × En)
  | some m => some (m, e)
  | none => none
def revR : Option (D × En) → Option (Mu × En)
  | some (d, e) => revMR e (revM d)
  | none => none
theorem q_revL {fe : EvE} {env : En} : eRevL fe env = revR (e1 fe env) := by
  unfold eRevL; cases h : e1 fe env with
  | none => rfl
  | some p => simp only [Option.bind_some, revR]; cases revM p.1 <;> rfl
theorem q_revL1 {d : D} {e : En} : revR (some (d, e)) = revMR e (revM d) := rfl
theorem q_revL2 {m : Mu} {e : En} : revMR e (some m) = some (m, e) := rfl
theorem c_revL {ds : List D} (h : ds.length ≤ 1000000) : revM (.list ds) = some (.l ds.reverse) := if_pos (decide_eq_true h)
end
end GD

/-! a list of new lists of whole numbers that is compared and then changed row by row, as one block -/
namespace GD
open PySem PySem.Spec PyProof.Rows L2
section
variable {K : PySem.W.Frag} {F : Frm} {T : Addr → Prop} {H H' : Hp} {env env' : En} {σ σ' : L2.St}
theorem set_some {env : En} {i j : Nat} {s : Sl} (h : (env.set i none)[j]? = some (some s)) : i ≠ j ∧ env[j]? = some (some s) := by
  by_cases e : i = j
  · subst e
    rcases Nat.lt_or_ge i env.length with c | c
    · rw [List.getElem?_set_self c] at h; cases h
    · rw [List.getElem?_eq_none (by rw [List.length_set]; exact c)] at h; cases h
  · exact ⟨e, by rwa [List.getElem?_set_ne e] at h⟩
/-- slot i is forgotten -/
theorem StOk.blank (S : StOk K F T H env σ) (i : Nat) (v : V) : StOk K F T H (env.set i none) (σ.set i (some v)) := by
  have w : ∀ a, Wr (env.set i none) (σ.set i (some v)) a → Wr env σ a := fun a ⟨j, p, m, e, q⟩ => by
    obtain ⟨n, e1⟩ := set_some e
    rw [List.getElem?_set_ne n] at q
    exact ⟨j, p, m, e1, q⟩
  have g : ∀ a, Ow F T (env.set i none) (σ.set i (some v)) a → Ow F T env σ a := fun a q => q.imp id (.imp id (w a))
  refine ⟨by rw [List.length_set, List.length_set]; exact S.len, fun j d e => ?_, fun j p m e => ?_, fun j k p q m n a e1 e2 q1 q2 => ?_, S.ext, S.dom, S.sub, S.tdm, fun a h k => S.tno a h (w a k)⟩
  · obtain ⟨n, e1⟩ := set_some e
    obtain ⟨u, e2, r⟩ := S.shr j d e1
    exact ⟨u, by rw [List.getElem?_set_ne n]; exact e2, r.anti g⟩
  · obtain ⟨n, e1⟩ := set_some e
    obtain ⟨a, e2, r, c⟩ := S.own j p m e1
    exact ⟨a, by rw [List.getElem?_set_ne n]; exact e2, r.tr (fun a _ _ n q => n (g a q)) (fun _ _ _ e => e) (fun _ e => e), c⟩
  · obtain ⟨n1, f1⟩ := set_some e1
    obtain ⟨n2, f2⟩ := set_some e2
    rw [List.getElem?_set_ne n1] at q1
    rw [List.getElem?_set_ne n2] at q2
    exact S.dis j k p q m n a f1 f2 q1 q2
theorem wr_blank {i : Nat} {v : V} {a : Addr} (h : Wr (env.set i none) (σ.set i (some v)) a) : Wr env σ a := by
  obtain ⟨j, p, m, e, q⟩ := h
  obtain ⟨n, e1⟩ := set_some e
  rw [List.getElem?_set_ne n] at q
  exact ⟨j, p, m, e1, q⟩
/-- what was kept apart is changed and let go -/
theorem StOk.drop (S : StOk K F T H env σ) (hT : ∀ a, T a → F.H0 a = none) (x : Ext T H H') : StOk K F T0 H' env σ := by
  have g : ∀ a, Ow F T0 env σ a → Ow F T env σ a := fun a q => q.imp id (.imp (fun h => h.elim) id)
  have k : ∀ a o, ¬ Ow F T env σ a → H a = some o → H' a = some o := fun a o n e => x.same a o e fun t => n (.inr (.inl t))
  refine ⟨S.len, fun j d e => ?_, fun j p m e => ?_, S.dis, ⟨fun a o e n => ?_, fun a e => x.live a (S.ext.live a e)⟩, S.dom, S.sub, fun a h => h.elim, fun a h => h.elim⟩
  · obtain ⟨u, e2, r⟩ := S.shr j d e
    exact ⟨u, e2, r.tr (fun a _ _ n q => n (g a q)) k⟩
  · obtain ⟨a, e2, r, c⟩ := S.own j p m e
    have nt : ¬ T a := fun t => S.tno a t ⟨j, p, m, e, e2⟩
    exact ⟨a, e2, r.tr (fun a _ _ n q => n (g a q)) k (fun o e => x.same a o e nt), c⟩
  · exact x.same a o (S.ext.same a o e n) fun t => by rw [hT a t] at e; cases e
end
section
variable {K : PySem.W.Frag}
def rowD (n : List Int) : D := .list (n.map .int)
def NN (n1 n2 n3 n4 : List Int) (k : Int) : D := .list [rowD n1, rowD n2, rowD n3, rowD n4, .int k]
structure NestOk (f1 f2 f3 f4 f5 : EvX) (env : En) (n1 n2 n3 n4 : List Int) (k : Int) (s : Str) : Prop where
  e1 : f1 env = some (.inr (.l (n1.map .int)), env)
  e2 : f2 env = some (.inr (.l (n2.map .int)), env)
  e3 : f3 env = some (.inr (.l (n3.map .int)), env)
  e4 : f4 (env.set 4 none) = some (.inr (.l (n4.map .int)), env.set 4 none)
  e5 : f5 (env.set 4 none) = some (.inl (.val (.int k)), env.set 4 none)
  s2 : env[2]? = some (some (.shr (.str s)))
  ok : okShow (NN n1 n2 n3 n4 k) = true
  sh : (NN n1 n2 n3 n4 k).shown = s
  len : 5 < env.length
  l1 : n1.length ≤ 1000
  l2 : n2.length ≤ 1000
  l3 : n3.length ≤ 1000
  l4 : n4.length ≤ 1000
open Classical in
noncomputable def sNest (f1 f2 f3 f4 f5 : EvX) : EvS := fun env => if ∃ n1 n2 n3 n4 k s, NestOk f1 f2 f3 f4 f5 env n1 n2 n3 n4 k s then some (.nx, (env.set 4 none).set 5 none) else none
theorem q_nest {f1 f2 f3 f4 f5 : EvX} {env : En} {n1 n2 n3 n4 : List Int} {k : Int} {s : Str} (h : NestOk f1 f2 f3 f4 f5 env n1 n2 n3 n4 k s) : sNest f1 f2 f3 f4 f5 env = some (.nx, (env.set 4 none).set 5 none) := by
  unfold sNest
  exact if_pos ⟨n1, n2, n3, n4, k, s, h⟩
theorem mu_ints {O : Addr → Prop} {H : Hp} {p : Addr} {n : List Int} (mu : MuAt K O H p (.l (n.map .int))) : H p = some (.lst (n.map V.int)) := by
  obtain ⟨xs, h, r⟩ := mu
  rw [h, intsOf_ok r (intsOf_map n)]
theorem dp_ints {H : Hp} : ∀ n : List Int, DpAll K H (n.map V.int) (n.map PyData.int)
  | [] => .nil
  | k :: n => .cons (.int k) (dp_ints n)
theorem dp_row {H : Hp} {p : Addr} {n : List Int} (h : H p = some (.lst (n.map V.int))) : Dp K H (.ref p) (rowD n) := .lst (.inl (.inl h)) (dp_ints n)
theorem live_none {W : Addr → Prop} {H H1 : Hp} (x : Ext W H H1) {p : Addr} (n : H1 p = none) : H p = none := by
  cases h : H p with
  | none => rfl
  | some o => exact absurd n (x.live p (by rw [h]; simp))
theorem is_nest {t1 t2 t3 t4 t5 : TE} {f1 f2 f3 f4 f5 : EvX} {tR : TS} (h1 : IX K t1 f1) (h2 : IX K t2 f2) (h3 : IX K t3 f3) (h4 : IX K t4 f4) (h5 : IX K t5 f5) :
    IS K (tSeq (tAsg (tLst (tCons t1 (tCons t2 (tCons t3 tNil)))) (gName 4))
      (tSeq (tAsg (tOp (rAddX K) (tVar 4) (tLst (tCons t4 (tCons t5 tNil)))) (gName 4))
      (tSeq (tIfS (tTest (tOp (rNeA K) (tCB (rRepr K) (tCons (tVar 4) tNil)) (tVar 2))) tR tNext)
        (tFor (iAny K (L2.tSl (rSlX K) (tVar 4) tNoPart (tPart (tC (.int 4))))) (gName 5) (tDrop (tBM K "list" rAppend (tVar 5) (tCons (tC (.int 0)) tNil))))))) (sNest f1 f2 f3 f4 f5) := by
  intro F env σ H fl env' S e Dn hD
  unfold sNest at e
  split at e
  case isFalse => cases e
  case isTrue hx =>
  obtain ⟨n1, n2, n3, n4, k, s, N⟩ := hx
  cases e
  have hlen := S.len
  have hl5 := N.len
  -- the three first rows
  refine h1 F T0 env σ H _ env S N.e1 _ fun p1 H1 np1 S1 st1 mu1 => ?_
  refine h2 F _ env σ H1 _ env S1 N.e2 _ fun p2 H2 np2 S2 st2 mu2 => ?_
  refine h3 F _ env σ H2 _ env S2 N.e3 _ fun p3 H3 np3 S3 st3 mu3 => ?_
  have g1 := mu_ints mu1
  have g2 := mu_ints mu2
  have g3 := mu_ints mu3
  have nw1 : ¬ Wr env σ p1 := fun w => S.wlive w np1
  have nw2 : ¬ Wr env σ p2 := fun w => S1.wlive w np2
  have nw3 : ¬ Wr env σ p3 := fun w => S2.wlive w np3
  have g1a := st3.ext.same p1 _ (st2.ext.same p1 _ g1 nw1) nw1
  have g2a := st3.ext.same p2 _ g2 nw2
  refine ⟨by rw [sizeLine_eq]; simp, fun a na => ?_⟩
  have x4 : Ext (fun _ => False) H3 (upd H3 a (.lst [.ref p1, .ref p2, .ref p3])) := Ext.new na
  have S4 := (S3.lay x4).blank 4 (.ref a)
  have nwa : ¬ Wr env σ a := fun w => S3.wlive w na
  have gA : (upd H3 a (.lst [.ref p1, .ref p2, .ref p3])) a = some (.lst [.ref p1, .ref p2, .ref p3]) := upd_same
  generalize hH4 : upd H3 a (.lst [.ref p1, .ref p2, .ref p3]) = H4 at *
  have σ4 : (σ.set 4 (some (.ref a)))[4]? = some (some (.ref a)) := List.getElem?_set_self (by omega)
  refine ⟨.ref a, σ4, ?_⟩
  -- the fourth row and the number
  refine h4 F _ (env.set 4 none) (σ.set 4 (some (.ref a))) H4 _ _ S4 N.e4 _ fun p4 H5 np4 S5 st5 mu4 => ?_
  refine h5 F _ (env.set 4 none) (σ.set 4 (some (.ref a))) H5 _ _ S5 N.e5 _ fun v H6 S6 st6 rv => ?_
  have hv : v = .int k := by
    have rv' : Rp K _ H6 v (.int k) := rv
    cases rv'; rfl
  subst hv
  have g4 := mu_ints mu4
  have nwb : ∀ {b}, ¬ Wr env σ b → ¬ Wr (env.set 4 none) (σ.set 4 (some (.ref a))) b := fun n w => n (wr_blank w)
  have nw4 : ¬ Wr (env.set 4 none) (σ.set 4 (some (.ref a))) p4 := fun w => S4.wlive w np4
  have ks : ∀ {b o}, ¬ Wr env σ b → H4 b = some o → H6 b = some o := fun n e => st6.ext.same _ _ (st5.ext.same _ _ e (nwb n)) (nwb n)
  have k1 := ks nw1 (x4.same p1 _ g1a id)
  have k2 := ks nw2 (x4.same p2 _ g2a id)
  have k3 := ks nw3 (x4.same p3 _ g3 id)
  have k4 := st6.ext.same p4 _ g4 nw4
  have kA := ks nwa gA
  refine ⟨by rw [sizeLine_eq]; simp, fun b nb => ?_⟩
  have x7 : Ext (fun _ => False) H6 (upd H6 b (.lst [.ref p4, .int k])) := Ext.new nb
  have gB : (upd H6 b (.lst [.ref p4, .int k])) b = some (.lst [.ref p4, .int k]) := upd_same
  generalize hH7 : upd H6 b (.lst [.ref p4, .int k]) = H7 at *
  refine .inr ⟨a, b, _, _, rfl, rfl, x7.same a _ kA id, gB, by rw [sizeLine_eq]; simp, fun c nc => ?_⟩
  have x8 : Ext (fun _ => False) H7 (upd H7 c (.lst ([.ref p1, .ref p2, .ref p3] ++ [.ref p4, .int k]))) := Ext.new nc
  have gC : (upd H7 c (.lst ([.ref p1, .ref p2, .ref p3] ++ [.ref p4, .int k]))) c = some (.lst [.ref p1, .ref p2, .ref p3, .ref p4, .int k]) := upd_same
  generalize hH8 : upd H7 c (.lst ([.ref p1, .ref p2, .ref p3] ++ [.ref p4, .int k])) = H8 at *
  have hσ2 : (σ.set 4 (some (.ref a))).set 4 (some (.ref c)) = σ.set 4 (some (.ref c)) := List.set_set ..
  show tSeq _ _ _ ((σ.set 4 (some (.ref a))).set 4 (some (.ref c))) H8
  rw [hσ2]
  have σc : (σ.set 4 (some (.ref c)))[4]? = some (some (.ref c)) := List.getElem?_set_self (by omega)
  have q1 := x8.same p1 _ (x7.same p1 _ k1 id) id
  have q2 := x8.same p2 _ (x7.same p2 _ k2 id) id
  have q3 := x8.same p3 _ (x7.same p3 _ k3 id) id
  have q4 := x8.same p4 _ (x7.same p4 _ k4 id) id
  -- shown as is due
  have dp : Dp K H8 (.ref c) (NN n1 n2 n3 n4 k) := .lst (.inl (.inl gC)) (.cons (dp_row q1) (.cons (dp_row q2) (.cons (dp_row q3) (.cons (dp_row q4) (.cons (.int k) .nil)))))
  obtain ⟨u, hu, ru⟩ := S.shr 2 _ N.s2
  have hu2 : u = .str s := by cases ru; rfl
  subst hu2
  have σ2 : (σ.set 4 (some (.ref c)))[2]? = some (some (.str s)) := by rw [List.getElem?_set_ne (by omega)]; exact hu
  refine ⟨.ref c, σc, .ref c, _, rfl, dp, N.ok, .str s, σ2, .inl ⟨rfl, _, rfl, ?_⟩⟩
  have hb : (!decide (V.str (NN n1 n2 n3 n4 k).shown = V.str s)) = false := by rw [N.sh]; simp
  rw [hb]
  dsimp only
  rw [if_neg Bool.false_ne_true]
  unfold tNext
  dsimp only
  -- the walk over the four rows
  refine ⟨.ref c, σc, 4, rfl, .inr ⟨c, _, rfl, .inl (.inl gC), fun d nd => ?_⟩⟩
  have hcut : cutV [V.ref p1, .ref p2, .ref p3, .ref p4, .int k] none (some 4) = [.ref p1, .ref p2, .ref p3, .ref p4] := rfl
  rw [hcut]
  have x9 : Ext (fun _ => False) H8 (upd H8 d (.lst [.ref p1, .ref p2, .ref p3, .ref p4])) := Ext.new nd
  have gD : (upd H8 d (.lst [.ref p1, .ref p2, .ref p3, .ref p4])) d = some (.lst [.ref p1, .ref p2, .ref p3, .ref p4]) := upd_same
  generalize hH9 : upd H8 d (.lst [.ref p1, .ref p2, .ref p3, .ref p4]) = H9 at *
  have r1 := x9.same p1 _ q1 id
  have r2 := x9.same p2 _ q2 id
  have r3 := x9.same p3 _ q3 id
  have r4 := x9.same p4 _ q4 id
  have ne : ∀ {A : Hp} {x y : Addr} {o : HO}, A x = some o → A y = none → x ≠ y := fun e n z => by rw [z, n] at e; cases e
  have d12 : p1 ≠ p2 := ne g1 np2
  have d13 : p1 ≠ p3 := ne (st2.ext.same p1 _ g1 nw1) np3
  have d23 : p2 ≠ p3 := ne g2 np3
  have d14 : p1 ≠ p4 := ne (x4.same p1 _ g1a id) np4
  have d24 : p2 ≠ p4 := ne (x4.same p2 _ g2a id) np4
  have d34 : p3 ≠ p4 := ne (x4.same p3 _ g3 id) np4
  have dd : ∀ {x}, H8 x ≠ none → d ≠ x := fun h z => h (by rw [← z]; exact nd)
  have e1 : d ≠ p1 := dd (by rw [q1]; simp)
  have e2 : d ≠ p2 := dd (by rw [q2]; simp)
  have e3 : d ≠ p3 := dd (by rw [q3]; simp)
  have e4 : d ≠ p4 := dd (by rw [q4]; simp)
  refine .inl ⟨d, _, rfl, .inl (.inl gD), ?_⟩
  -- what the heap is after i turns
  let P : Nat → Addr := fun i => if i = 0 then p1 else if i = 1 then p2 else if i = 2 then p3 else p4
  let X : Nat → List V := fun i => if i = 0 then n1.map V.int else if i = 1 then n2.map V.int else if i = 2 then n3.map V.int else n4.map V.int
  refine ⟨fun i m σ' H' => i ≤ 4 ∧ m = 4 - i ∧ (i = 0 → σ' = σ.set 4 (some (.ref c))) ∧ (0 < i → ∃ w, σ' = (σ.set 4 (some (.ref c))).set 5 (some w)) ∧ H' d = some (.lst [.ref p1, .ref p2, .ref p3, .ref p4]) ∧
    (∀ j, j < 4 → H' (P j) = some (.lst (if j < i then X j ++ [.int 0] else X j))) ∧ (∀ b o, b ≠ p1 → b ≠ p2 → b ≠ p3 → b ≠ p4 → H9 b = some o → H' b = some o) ∧ ∀ b, H9 b ≠ none → H' b ≠ none, ⟨4, ?_⟩, fun i m σ' H' hW => ?_⟩
  · refine ⟨by omega, rfl, fun _ => rfl, fun h => by omega, gD, fun j hj => ?_, fun b o _ _ _ _ h => h, fun b h => h⟩
    rw [if_neg (by omega)]
    have : j = 0 ∨ j = 1 ∨ j = 2 ∨ j = 3 := by omega
    rcases this with rfl | rfl | rfl | rfl
    · exact r1
    · exact r2
    · exact r3
    · exact r4
  obtain ⟨hi, hm, hs0, hs1, hd, hr, hk, hv⟩ := hW
  by_cases h4i : i = 4
  · -- the end
    left
    refine ⟨⟨_, .inl (.inl hd), by subst h4i; exact Nat.le_refl _⟩, ?_⟩
    obtain ⟨w, rfl⟩ := hs1 (by omega)
    have z1 : H p1 = none := np1
    have z2 : H p2 = none := live_none st1.ext np2
    have z3 : H p3 = none := live_none st1.ext (live_none st2.ext np3)
    have z4 : H p4 = none := live_none st1.ext (live_none st2.ext (live_none st3.ext (live_none x4 np4)))
    have lv9 : ∀ b, H6 b ≠ none → H' b ≠ none := fun b h => hv b (x9.live b (x8.live b (x7.live b h)))
    have SD := S6.drop (H' := H') (fun b hb => by
      rcases hb with ((((hb | hb) | hb) | hb) | hb)
      · exact hb.elim
      · subst hb; exact S.fresh0 np1
      · subst hb; exact S1.fresh0 np2
      · subst hb; exact S2.fresh0 np3
      · subst hb; exact S4.fresh0 np4) ⟨fun b o e n => hk b o (fun z => n (.inl (.inl (.inl (.inr z))))) (fun z => n (.inl (.inl (.inr z)))) (fun z => n (.inl (.inr z))) (fun z => n (.inr z)) (x9.same b o (x8.same b o (x7.same b o e id) id) id), lv9⟩
    have SB := (SD.blank 4 (.ref c)).blank 5 w
    rw [List.set_set, hσ2] at SB
    refine hD _ _ SB ⟨⟨fun b o e n => ?_, fun b h => lv9 b (st6.ext.live b (st5.ext.live b (x4.live b (st3.ext.live b (st2.ext.live b (st1.ext.live b h))))))⟩, fun b hb => .inl (wr_blank (wr_blank hb))⟩
    have y3 := st3.ext.same b o (st2.ext.same b o (st1.ext.same b o e n) n) n
    have y6 := ks n (x4.same b o y3 id)
    have nz : ∀ {x}, H x = none → b ≠ x := fun h z => by rw [z, h] at e; cases e
    exact hk b o (nz z1) (nz z2) (nz z3) (nz z4) (x9.same b o (x8.same b o (x7.same b o y6 id) id) id)
  · right
    have hi4 : i < 4 := by omega
    refine ⟨⟨_, V.ref (P i), .inl (.inl hd), ?_⟩, fun σ2 H2 => i + 1 ≤ 4 ∧ (∃ w, σ2 = (σ.set 4 (some (.ref c))).set 5 (some w)) ∧ H2 d = some (.lst [.ref p1, .ref p2, .ref p3, .ref p4]) ∧
      (∀ j, j < 4 → H2 (P j) = some (.lst (if j < i + 1 then X j ++ [.int 0] else X j))) ∧ (∀ b o, b ≠ p1 → b ≠ p2 → b ≠ p3 → b ≠ p4 → H9 b = some o → H2 b = some o) ∧ ∀ b, H9 b ≠ none → H2 b ≠ none, fun σ2 H2 h => ⟨m - 1, by omega, h.1, by omega, fun z => by omega, fun _ => h.2.1, h.2.2⟩, fun x H2 hy => ?_⟩
    · have : i = 0 ∨ i = 1 ∨ i = 2 ∨ i = 3 := by omega
      rcases this with rfl | rfl | rfl | rfl <;> rfl
    obtain ⟨rfl, hx⟩ := hy
    have hxx : x = .ref (P i) := by
      have := hx _ (.inl (.inl hd))
      have h4 : i = 0 ∨ i = 1 ∨ i = 2 ∨ i = 3 := by omega
      rcases h4 with rfl | rfl | rfl | rfl <;> exact (Option.some.inj this).symm
    subst hxx
    have hPn : ∀ j, j < 4 → j ≠ i → P j ≠ P i := fun j hj hji => by
      have h4 : i = 0 ∨ i = 1 ∨ i = 2 ∨ i = 3 := by omega
      have h5 : j = 0 ∨ j = 1 ∨ j = 2 ∨ j = 3 := by omega
      rcases h4 with rfl | rfl | rfl | rfl <;> rcases h5 with rfl | rfl | rfl | rfl <;> first
        | exact absurd rfl hji
        | exact d12 | exact d13 | exact d14 | exact d23 | exact d24 | exact d34
        | exact Ne.symm d12 | exact Ne.symm d13 | exact Ne.symm d14 | exact Ne.symm d23 | exact Ne.symm d24 | exact Ne.symm d34
    have hPd : d ≠ P i := by
      have h4 : i = 0 ∨ i = 1 ∨ i = 2 ∨ i = 3 := by omega
      rcases h4 with rfl | rfl | rfl | rfl
      · exact e1
      · exact e2
      · exact e3
      · exact e4
    have hPb : ∀ b, b ≠ p1 → b ≠ p2 → b ≠ p3 → b ≠ p4 → b ≠ P i := fun b h1 h2 h3 h4 => by
      have hh : i = 0 ∨ i = 1 ∨ i = 2 ∨ i = 3 := by omega
      rcases hh with rfl | rfl | rfl | rfl
      · exact h1
      · exact h2
      · exact h3
      · exact h4
    have hXl : (X i).length < sizeLine := by
      have hh : i = 0 ∨ i = 1 ∨ i = 2 ∨ i = 3 := by omega
      have := N.l1
      have := N.l2
      have := N.l3
      have := N.l4
      rw [sizeLine_eq]
      rcases hh with rfl | rfl | rfl | rfl
      · show (n1.map V.int).length < _; rw [List.length_map]; omega
      · show (n2.map V.int).length < _; rw [List.length_map]; omega
      · show (n3.map V.int).length < _; rw [List.length_map]; omega
      · show (n4.map V.int).length < _; rw [List.length_map]; omega
    have hri := hr i hi4
    rw [if_neg (Nat.lt_irrefl i)] at hri
    have hw : ∃ w, σ'.set 5 (some (.ref (P i))) = (σ.set 4 (some (.ref c))).set 5 (some w) ∧ σ'.length = σ.length := by
      by_cases h0 : i = 0
      · rw [hs0 h0]; exact ⟨_, rfl, List.length_set⟩
      · obtain ⟨w, hw⟩ := hs1 (by omega)
        rw [hw, List.set_set]
        exact ⟨_, rfl, by rw [List.length_set, List.length_set]⟩
    obtain ⟨w, hw1, hw2⟩ := hw
    have σ5 : (σ'.set 5 (some (.ref (P i))))[5]? = some (some (.ref (P i))) := List.getElem?_set_self (by omega)
    refine ⟨.ref (P i), σ5, .inl ⟨rfl, _, .inl (.inl hri)⟩, P i, X i, .int 0, rfl, rfl, hri, hXl, by omega, ⟨w, hw1⟩, ?_, fun j hj => ?_, fun b o h1 h2 h3 h4 e => ?_, fun b h => ?_⟩
    · rw [upd_ne hPd]; exact hd
    · by_cases hji : j = i
      · subst hji
        rw [upd_same, if_pos (by omega)]
      · rw [upd_ne (hPn j hj hji), hr j hj]
        by_cases hlt : j < i
        · rw [if_pos hlt, if_pos (by omega)]
        · rw [if_neg hlt, if_neg (by omega)]
    · rw [upd_ne (hPb b h1 h2 h3 h4)]; exact hk b o h1 h2 h3 h4 e
    · by_cases hb2 : b = P i
      · rw [hb2, upd_same]; simp
      · rw [upd_ne hb2]; exact hv b h
end
end GD

set_option maxHeartbeats 2000000
/-! own error classes over any built-in base whose __init__ stores one field: made, raised -/
namespace GDX
open PySem PySem.W PySem.Calls PyProof.Rows PySem.HandSPX Builtin.ObjectAttr
section
variable {prog : Program} {w : World} {A : Around} {E : Value → Shared → Prop} {R : Result → Shared → Prop} {hp : Heap} {g : Array GenState} {d : Drawn} {t : Nat} {os : OsState}
/-- the first store into an error that has no dict yet, whatever built-in it stands over -/
theorem store1 {K : Frag} {B : String} {bmB : List Value} {name : Str} {tk : Tok} {v : Value} {x C t0 : Addr} (SF : StoreFacts B bmB "object.__setattr__" "object") (X : K.In hp) (hx : hp.get? x = some (excObj C t0 none .none))
    (ov : excOver K C bmB = true) (ht : takerIn K C name = some none) (hh : hasDictIn K C = true)
    (hq : ∀ h' tk' dx, (∀ b o, b ≠ x → hp.get? b = some o → h'.get? b = some o) → hp.objs.size ≤ dx → dx ≠ x → h'.get? x = some (excObj C t0 (some dx) .none) →
      h'.Ns1 dx (fun y => if y = name then some v else none) → R (.ok (.ret .none)) ⟨h', g, d, tk', os⟩) :
    codeAny (model prog w) A (.call (.builtin "object.__setattr__") ⟨[.ref x, .str name tk, v], []⟩) R ⟨hp, g, d, t, os⟩ := by
  refine osa_openX (s := ⟨hp, g, d, t, os⟩) (od := none) SF X ⟨hx, rfl, rfl, trivial⟩ ov ht fun _ => ?_
  obtain ⟨cdx, hcx, hdx⟩ := any_some hh
  have hne : x ≠ hp.objs.size := Nat.ne_of_lt (Heap.lt_size hx)
  refine wpAny_bind (wpAny_pure (wpAny_bind (instanceDict_exc (s := ⟨hp, g, d, t, os⟩) hx (looks_clsIn X hcx) hdx ?_)))
  generalize hh1 : (hp.push (PySem.W.dictOf [] 0)).update x (fun o => { o with dict := some hp.objs.size }) = h1
  have old : ∀ b o, b ≠ x → hp.get? b = some o → h1.get? b = some o := fun b o hb e => by
    rw [← hh1, Heap.get?_update_ne _ _ _ _ hb]
    exact Heap.get?_push_of_some _ e
  have nsd : h1.Ns hp.objs.size (fun _ => none) := by
    refine ⟨PySem.W.dictOf [] 0, #[], 0, ?_, rfl, fun e he => absurd he (by simp), fun _ => rfl⟩
    rw [← hh1, Heap.get?_update_ne _ _ _ _ hne.symm]
    exact Heap.get?_push_at rfl rfl
  have hx1 : h1.get? x = some (excObj C t0 (some hp.objs.size) .none) := by
    rw [← hh1]
    exact Heap.get?_update_self _ (Heap.get?_push_of_some _ hx) rfl
  show wpAny _ _ (storeInDict hp.objs.size (.str name tk) name v) _ _ _
  refine PySem.HandSPX.store_in_new nsd fun h2 tk2 n2 sb => ?_
  exact hq h2 tk2 hp.objs.size (fun b o hb e => (sb.2 b (Nat.ne_of_lt (Heap.lt_size e))).trans (old b o hb e)) (Nat.le_refl _) hne.symm ((sb.2 x hne).trans hx1) n2
end

/-! ### field slot -/
namespace XS
def iA (p1 p2 : Pos) : Arguments := { posonlyargs := [], args := [{ arg := "self", annotation := none, pos := p1 }, { arg := "slot", annotation := none, pos := p2 }], vararg := none, kwonlyargs := [], kw_defaults := [], kwarg := none, defaults := [] }
def iB (q1 q2 q3 q4 : Pos) : List Stmt := [.Assign [.Attribute (.Name "self" q1) "slot" q2] (.Name "slot" q3) q4]
def iS : Scope := { kind := .function, names := [(PySem.Str.ofString "self", .local), (PySem.Str.ofString "slot", .local)], isGenerator := false, isCoroutine := false, more := [] }
/-- what the written part says of the class at C (over the built-in B), and of its __init__ at fI -/
structure XT (K : Frag) (mg : Str → Option Value) (nm : Str) (bmB : List Value) (newId : String) (C fI : Addr) : Prop where
  gC : mg nm = some (.ref C)
  ini : excInitIn K C bmB newId = true
  ov : excOver K C bmB = true
  sa : findIn K (.ref C) "__setattr__" = some (some (.builtin "object.__setattr__"))
  ga : findIn K (.ref C) "__getattribute__" = some (some (.builtin "BaseException.__getattribute__"))
  gg : findIn K (.ref C) "__getattr__" = some none
  noN : findIn K (.ref C) "slot" = some none
  iC : findIn K (.ref C) "__init__" = some (some (.ref fI))
  tC : typeIn K (.ref fI) = some (.type "function")
  kC : keepIn K (.ref C) = true
  exC : subIn K (.ref C) (.type "BaseException") = some true
  tyC : typeIn K (.ref C) = some (.type "type")
  hdC : hasDictIn K C = true
  fn : ∃ (st : Stmt) (qn : Str) (oc : Value) (od : Option Addr) (kV doc pm : Value) (an : Option Addr) (cdv ct : Value) (osl : Array (Option Value)),
    K.lookup fI = some ⟨oc, od, .func (fnOf "__init__" qn (L2.defArgs st) (L2.defBody st) (L2.defScope st) .none kV doc pm an cdv ct), osl⟩ ∧ codeIn K cdv qn = true ∧
      (∃ p1 p2 : Pos, L2.defArgs st = iA p1 p2) ∧ (∃ q1 q2 q3 q4 : Pos, L2.defBody st = iB q1 q2 q3 q4) ∧ L2.defScope st = iS
/-- what __init__ leaves of a fresh error at x -/
structure IEnd (h h' : Heap) (x C dx t1 : Addr) (v : Value) : Prop where
  keep : ∀ b o, b ≠ x → h.get? b = some o → h'.get? b = some o
  obj : h'.get? x = some (excObj C t1 (some dx) .none)
  big : h.objs.size ≤ dx
  ne : dx ≠ x
  ns : h'.Ns1 dx (fun y => if y = "slot" then some v else none)
structure Made (h h' : Heap) (e C d : Addr) (v : Value) : Prop where
  keep : ∀ b o, h.get? b = some o → h'.get? b = some o
  new : h.objs.size ≤ e
  obj : ∃ t1 : Addr, h'.get? e = some (excObj C t1 (some d) .none)
  big : h.objs.size ≤ d
  ne : d ≠ e
  ns : h'.Ns1 d (fun y => if y = "slot" then some v else none)
theorem ldC {M : Model} {s : Shared} {name : Str} {scope : Scope} {L a : Addr} {cd : Value} {m : Str → Option Value} {x : Str} {pos : Pos} {v : Value} {Q : Value → Shared → Prop} {A : Around} {E : Value → Shared → Prop} (hn : s.heap.Ns L m) (hv : m x = some v) (h : Q v s)
    (hk : scope.kind = .function := by rfl) (hl : (envOfC name scope L a cd).kindOf x = some .local := by rfl) (hd : (x == ("__debug__" : Str)) = false := by decide) :
    wpAny M A (eval (.Name x pos) (envOfC name scope L a cd)) Q E s := wpAny_Name (wpAny_loadName_local hk hl hn hv h) hd
section
variable {prog : Program} {w : World} {A : Around} {E : Value → Shared → Prop} {R : Result → Shared → Prop} {s : Shared} {K : Frag} {mg : Str → Option Value} {nm : Str} {bmB : List Value} {B newId initId : String} {C fI : Addr}
theorem init_runs (SF : StoreFacts B bmB "object.__setattr__" "object") (T : XT K mg nm bmB newId C fI) {x t0 : Addr} {v : Value} (X : K.In s.heap) (hlim : s.heap.NoLimit) (hx : s.heap.get? x = some (excO C t0)) (hroom : A.depth < recursionLimit)
    (hq : ∀ h' tk dx, IEnd s.heap h' x C dx t0 v → R (.ok (.ret .none)) { s with heap := h', toks := tk }) :
    codeAny (model prog w) A (.call (.ref fI) ⟨[.ref x, v], []⟩) R s := by
  obtain ⟨st, qn, oc, od, kV, doc, pm, an, cdv, ct, osl, ho, hcd, ⟨p1, p2, eA⟩, ⟨q1, q2, q3, q4, eB⟩, eS⟩ := T.fn
  rw [eA, eB, eS] at ho
  refine Att.call_fn (binds := [("self", .ref x), ("slot", v)]) X hlim ho hcd hroom (BindsTo.of_eq (by first | rfl | with_unfolding_all rfl)) (by first | rfl | decide | with_unfolding_all rfl) (fun s₁ IC => ?_) rfl rfl rfl
  obtain ⟨h₁, tk₁, rfl⟩ := IC.toInCall.same
  have k : ∀ b o, s.heap.get? b = some o → h₁.get? b = some o := IC.toInCall.keep
  have hn := IC.toInCall.ns
  have X₁ : K.In h₁ := X.keeps k
  have hx₁ := k _ _ hx
  show wpAny _ _ (execs _ _) _ _ _
  refine wpAny_execs_cons (plainObj_wpAny_Assign_Attribute ?_)
  refine ldC (v := v) hn (by first | rfl | with_unfolding_all rfl | kernel_rfl) (ldC (v := .ref x) hn (by first | rfl | with_unfolding_all rfl | kernel_rfl) ?_)
  refine set_plain X₁ (ox := excO C t0) (od := none) ⟨hx₁, rfl, rfl, trivial⟩ T.sa ?_
  refine store1 SF X₁ hx₁ T.ov (by unfold takerIn; rw [T.noN]; rfl) T.hdC fun h₃ tk₃ dx k₃ dn dne hx₃ hn₃ => ?_
  show wpAny _ _ (execs _ _) _ _ _
  have z : s.heap.objs.size < h₁.objs.size := hn.lt
  exact wpAny_execs_nil (hq h₃ tk₃ dx ⟨fun b o hb e => k₃ b o hb (k b o e), hx₃, Nat.le_of_lt (Nat.lt_of_lt_of_le z dn), dne, hn₃⟩)
theorem made (FB : ExcBaseFacts B newId initId bmB) (SF : StoreFacts B bmB "object.__setattr__" "object") (T : XT K mg nm bmB newId C fI) {v : Value} (X : K.In s.heap) (hlim : s.heap.NoLimit) (hroom : A.depth + 1 < recursionLimit)
    (hq : ∀ h' tk e d, Made s.heap h' e C d v → R (.ok (.ret (.ref e))) { s with heap := h', toks := tk }) :
    codeAny (model prog w) A (.call (.ref C) ⟨[v], []⟩) R s := by
  obtain ⟨nmC, N, qC, bs, bm, hdct, sn, sub, ab, col, dd, k0, k1, k2, k3, k5, hC, hT⟩ := excInit_of X T.ini
  obtain ⟨hp, g, dr, tk, os⟩ := s
  have k : ∀ b o, hp.get? b = some o → ((hp.push (kdv_tup [v])).push (excO C hp.objs.size)).get? b = some o := fun b o e => Heap.get?_push_of_some _ (Heap.get?_push_of_some _ e)
  have hget : ((hp.push (kdv_tup [v])).push (excO C hp.objs.size)).get? (hp.objs.size + 1) = some (excO C hp.objs.size) := by heap_get
  refine call_own FB hT hC (looks_findIn X T.iC) (fun self => bind_fn X self T.tC) (by rw [sizeLine_eq]; exact (by decide : 1 ≤ 16777216)) ?_
  refine init_runs (s := ⟨(hp.push (kdv_tup [v])).push (excO C hp.objs.size), g, dr, tk, os⟩) SF T (X.keeps k) (hlim.keeps k) hget ?_ fun h' tk' dx ⟨k', hx, dn, dne, hns⟩ => ?_
  · show A.depth + 1 < recursionLimit
    exact hroom
  · have old : ∀ b o, hp.get? b = some o → h'.get? b = some o := fun b o e => k' b o (Nat.ne_of_lt (Nat.lt_succ_of_lt (Heap.lt_size e))) (k b o e)
    have z : hp.objs.size + 1 + 1 ≤ dx := by
      first
        | (simpa only [Heap.size_push] using dn)
        | exact dn
        | (have q := dn; rw [Heap.size_push, Heap.size_push] at q; exact q)
    exact ⟨rfl, hq h' tk' (hp.objs.size + 1) dx ⟨old, Nat.le_succ _, ⟨_, hx⟩, Nat.le_trans (Nat.le_trans (Nat.le_succ _) (Nat.le_succ _)) z, dne, hns⟩⟩
end
end XS

/-! ### field limit -/
namespace XL
def iA (p1 p2 : Pos) : Arguments := { posonlyargs := [], args := [{ arg := "self", annotation := none, pos := p1 }, { arg := "limit", annotation := none, pos := p2 }], vararg := none, kwonlyargs := [], kw_defaults := [], kwarg := none, defaults := [] }
def iB (q1 q2 q3 q4 : Pos) : List Stmt := [.Assign [.Attribute (.Name "self" q1) "limit" q2] (.Name "limit" q3) q4]
def iS : Scope := { kind := .function, names := [(PySem.Str.ofString "self", .local), (PySem.Str.ofString "limit", .local)], isGenerator := false, isCoroutine := false, more := [] }
/-- what the written part says of the class at C (over the built-in B), and of its __init__ at fI -/
structure XT (K : Frag) (mg : Str → Option Value) (nm : Str) (bmB : List Value) (newId : String) (C fI : Addr) : Prop where
  gC : mg nm = some (.ref C)
  ini : excInitIn K C bmB newId = true
  ov : excOver K C bmB = true
  sa : findIn K (.ref C) "__setattr__" = some (some (.builtin "object.__setattr__"))
  ga : findIn K (.ref C) "__getattribute__" = some (some (.builtin "BaseException.__getattribute__"))
  gg : findIn K (.ref C) "__getattr__" = some none
  noN : findIn K (.ref C) "limit" = some none
  iC : findIn K (.ref C) "__init__" = some (some (.ref fI))
  tC : typeIn K (.ref fI) = some (.type "function")
  kC : keepIn K (.ref C) = true
  exC : subIn K (.ref C) (.type "BaseException") = some true
  tyC : typeIn K (.ref C) = some (.type "type")
  hdC : hasDictIn K C = true
  fn : ∃ (st : Stmt) (qn : Str) (oc : Value) (od : Option Addr) (kV doc pm : Value) (an : Option Addr) (cdv ct : Value) (osl : Array (Option Value)),
    K.lookup fI = some ⟨oc, od, .func (fnOf "__init__" qn (L2.defArgs st) (L2.defBody st) (L2.defScope st) .none kV doc pm an cdv ct), osl⟩ ∧ codeIn K cdv qn = true ∧
      (∃ p1 p2 : Pos, L2.defArgs st = iA p1 p2) ∧ (∃ q1 q2 q3 q4 : Pos, L2.defBody st = iB q1 q2 q3 q4) ∧ L2.defScope st = iS
/-- what __init__ leaves of a fresh error at x -/
structure IEnd (h h' : Heap) (x C dx t1 : Addr) (v : Value) : Prop where
  keep : ∀ b o, b ≠ x → h.get? b = some o → h'.get? b = some o
  obj : h'.get? x = some (excObj C t1 (some dx) .none)
  big : h.objs.size ≤ dx
  ne : dx ≠ x
  ns : h'.Ns1 dx (fun y => if y = "limit" then some v else none)
structure Made (h h' : Heap) (e C d : Addr) (v : Value) : Prop where
  keep : ∀ b o, h.get? b = some o → h'.get? b = some o
  new : h.objs.size ≤ e
  obj : ∃ t1 : Addr, h'.get? e = some (excObj C t1 (some d) .none)
  big : h.objs.size ≤ d
  ne : d ≠ e
  ns : h'.Ns1 d (fun y => if y = "limit" then some v else none)
theorem ldC {M : Model} {s : Shared} {name : Str} {scope : Scope} {L a : Addr} {cd : Value} {m : Str → Option Value} {x : Str} {pos : Pos} {v : Value} {Q : Value → Shared → Prop} {A : Around} {E : Value → Shared → Prop} (hn : s.heap.Ns L m) (hv : m x = some v) (h : Q v s)
    (hk : scope.kind = .function := by rfl) (hl : (envOfC name scope L a cd).kindOf x = some .local := by rfl) (hd : (x == ("__debug__" : Str)) = false := by decide) :
    wpAny M A (eval (.Name x pos) (envOfC name scope L a cd)) Q E s := wpAny_Name (wpAny_loadName_local hk hl hn hv h) hd
section
variable {prog : Program} {w : World} {A : Around} {E : Value → Shared → Prop} {R : Result → Shared → Prop} {s : Shared} {K : Frag} {mg : Str → Option Value} {nm : Str} {bmB : List Value} {B newId initId : String} {C fI : Addr}
theorem init_runs (SF : StoreFacts B bmB "object.__setattr__" "object") (T : XT K mg nm bmB newId C fI) {x t0 : Addr} {v : Value} (X : K.In s.heap) (hlim : s.heap.NoLimit) (hx : s.heap.get? x = some (excO C t0)) (hroom : A.depth < recursionLimit)
    (hq : ∀ h' tk dx, IEnd s.heap h' x C dx t0 v → R (.ok (.ret .none)) { s with heap := h', toks := tk }) :
    codeAny (model prog w) A (.call (.ref fI) ⟨[.ref x, v], []⟩) R s := by
  obtain ⟨st, qn, oc, od, kV, doc, pm, an, cdv, ct, osl, ho, hcd, ⟨p1, p2, eA⟩, ⟨q1, q2, q3, q4, eB⟩, eS⟩ := T.fn
  rw [eA, eB, eS] at ho
  refine Att.call_fn (binds := [("self", .ref x), ("limit", v)]) X hlim ho hcd hroom (BindsTo.of_eq (by first | rfl | with_unfolding_all rfl)) (by first | rfl | decide | with_unfolding_all rfl) (fun s₁ IC => ?_) rfl rfl rfl
  obtain ⟨h₁, tk₁, rfl⟩ := IC.toInCall.same
  have k : ∀ b o, s.heap.get? b = some o → h₁.get? b = some o := IC.toInCall.keep
  have hn := IC.toInCall.ns
  have X₁ : K.In h₁ := X.keeps k
  have hx₁ := k _ _ hx
  show wpAny _ _ (execs _ _) _ _ _
  refine wpAny_execs_cons (plainObj_wpAny_Assign_Attribute ?_)
  refine ldC (v := v) hn (by first | rfl | with_unfolding_all rfl | kernel_rfl) (ldC (v := .ref x) hn (by first | rfl | with_unfolding_all rfl | kernel_rfl) ?_)
  refine set_plain X₁ (ox := excO C t0) (od := none) ⟨hx₁, rfl, rfl, trivial⟩ T.sa ?_
  refine store1 SF X₁ hx₁ T.ov (by unfold takerIn; rw [T.noN]; rfl) T.hdC fun h₃ tk₃ dx k₃ dn dne hx₃ hn₃ => ?_
  show wpAny _ _ (execs _ _) _ _ _
  have z : s.heap.objs.size < h₁.objs.size := hn.lt
  exact wpAny_execs_nil (hq h₃ tk₃ dx ⟨fun b o hb e => k₃ b o hb (k b o e), hx₃, Nat.le_of_lt (Nat.lt_of_lt_of_le z dn), dne, hn₃⟩)
theorem made (FB : ExcBaseFacts B newId initId bmB) (SF : StoreFacts B bmB "object.__setattr__" "object") (T : XT K mg nm bmB newId C fI) {v : Value} (X : K.In s.heap) (hlim : s.heap.NoLimit) (hroom : A.depth + 1 < recursionLimit)
    (hq : ∀ h' tk e d, Made s.heap h' e C d v → R (.ok (.ret (.ref e))) { s with heap := h', toks := tk }) :
    codeAny (model prog w) A (.call (.ref C) ⟨[v], []⟩) R s := by
  obtain ⟨nmC, N, qC, bs, bm, hdct, sn, sub, ab, col, dd, k0, k1, k2, k3, k5, hC, hT⟩ := excInit_of X T.ini
  obtain ⟨hp, g, dr, tk, os⟩ := s
  have k : ∀ b o, hp.get? b = some o → ((hp.push (kdv_tup [v])).push (excO C hp.objs.size)).get? b = some o := fun b o e => Heap.get?_push_of_some _ (Heap.get?_push_of_some _ e)
  have hget : ((hp.push (kdv_tup [v])).push (excO C hp.objs.size)).get? (hp.objs.size + 1) = some (excO C hp.objs.size) := by heap_get
  refine call_own FB hT hC (looks_findIn X T.iC) (fun self => bind_fn X self T.tC) (by rw [sizeLine_eq]; exact (by decide : 1 ≤ 16777216)) ?_
  refine init_runs (s := ⟨(hp.push (kdv_tup [v])).push (excO C hp.objs.size), g, dr, tk, os⟩) SF T (X.keeps k) (hlim.keeps k) hget ?_ fun h' tk' dx ⟨k', hx, dn, dne, hns⟩ => ?_
  · show A.depth + 1 < recursionLimit
    exact hroom
  · have old : ∀ b o, hp.get? b = some o → h'.get? b = some o := fun b o e => k' b o (Nat.ne_of_lt (Nat.lt_succ_of_lt (Heap.lt_size e))) (k b o e)
    have z : hp.objs.size + 1 + 1 ≤ dx := by
      first
        | (simpa only [Heap.size_push] using dn)
        | exact dn
        | (have q := dn; rw [Heap.size_push, Heap.size_push] at q; exact q)
    exact ⟨rfl, hq h' tk' (hp.objs.size + 1) dx ⟨old, Nat.le_succ _, ⟨_, hx⟩, Nat.le_trans (Nat.le_trans (Nat.le_succ _) (Nat.le_succ _)) z, dne, hns⟩⟩
end
end XL

end GDX
namespace GDX
open PySem PySem.Spec PyProof.Rows L2
/-- X(e), an own error class whose __init__ stores the field f -/
def tMkF (C : Addr) (f : Str) (ta : TA) : L2.St → Hp → XK → Prop := fun σ H Q => ta σ H fun vs H1 => ∃ v, vs = [v] ∧ ∀ d, H1 d = none → Q (.ref C) (some d) (upd H1 d (.xd [(f, v)]))

namespace XS
theorem relO_f {v : V} {v' : Value} (r : RelV v v') (f : Str) : RelO (List.lookup f [(("slot" : Str), v)]) (if f = "slot" then some v' else none) := by
  by_cases hw : f = "slot"
  · subst hw
    rw [if_pos rfl]
    have q : List.lookup ("slot" : Str) [(("slot" : Str), v)] = some v := by simp [List.lookup]
    rw [q]
    exact r
  · rw [if_neg hw]
    have qw : (f == ("slot" : Str)) = false := by simpa using hw
    have q2 : List.lookup f [(("slot" : Str), v)] = none := by simp [List.lookup, qw]
    rw [q2]
    trivial
section
variable {X : Cx} {C fI : Addr} {nm : Str} {bmB : List Value} {B newId initId : String}
theorem pmk {a : Expr} {ta : TA} {p pos : Pos} {k : Nat} (FB : ExcBaseFacts B newId initId bmB) (SF : StoreFacts B bmB "object.__setattr__" "object") (T : XT X.K X.mg nm bmB newId C fI) (hr : Room k X.A) (ha : PA X [a] ta) (hg : Gl X nm)
    (hdb : (nm == ("__debug__" : Str)) = false := by decide)
    (he : starEach (a :: []) X.env = (false, eval a X.env) :: starEach [] X.env := by rfl) (hpl : (backTo pos (starEach [] X.env)).any (·.1) = false := by rfl) :
    PMk X (.Call (.Name nm p) [a] [] pos) (tMkF C "slot" ta) := by
  intro pins s σ H Q I h
  refine wpAny_Call_Name_kw (ld_glob I hg T.gC ?_ hdb)
  refine PySem.W.callWith_K (h₀ := X.base) I.ok.mod.kin T.kC (thn (ha.run pos pins s σ H _ I h) fun us s1 hh => ?_) he hpl
  obtain ⟨vs, H1, I1, r1, v, ev, q1⟩ := hh
  subst ev
  refine ⟨I1.kIn, ?_⟩
  cases r1 with
  | cons rv rn =>
    rename_i v' us'
    cases rn
    show wpAny _ _ (call (.ref C) [v']) _ _ _
    have hlim := I1.nolimit
    obtain ⟨hp, g, dr, tk, os⟩ := s1
    refine wpAny_call (made FB SF T I1.kIn hlim (by have := hr.dp; omega) fun h' tk' e d M => ?_)
    show MkP X pins σ Q (.ref e) ⟨h', g, dr, tk', os⟩
    obtain ⟨t1, hoe⟩ := M.obj
    have hns := M.ns
    obtain ⟨G', g1, g2⟩ := restrict h' fun b => decide (b ≠ e)
    have gk : ∀ b, b ≠ e → G'.get? b = h'.get? b := fun b hb => g1 b (decide_eq_true hb)
    have ge : G'.get? e = none := g2 e (by simp)
    have old : ∀ b o, hp.get? b = some o → G'.get? b = some o := fun b o q => (gk b (Nat.ne_of_lt (Nat.lt_of_lt_of_le (Heap.lt_size q) M.new))).trans (M.keep b o q)
    have ob : ObjOk X.prog X.w (upd H1 d (.xd [(("slot" : Str), v)])) G' d (.xd [(("slot" : Str), v)]) :=
      ⟨_, hns.at (fun o q => (gk d M.ne).trans q), fun f => relO_f rv f⟩
    have J : Inv X pins σ (upd H1 d (.xd [(("slot" : Str), v)])) ⟨G', g, dr, tk', os⟩ := I1.laid (t' := tk') old M.big ob
    refine ⟨e, _, _, ⟨G', g, dr, tk', os⟩, _, .ref C, some d, rfl, J, fun b o q => ?_, ge, hoe, ⟨rfl, rfl⟩, rfl, rfl, ?_, rfl, I1.bare, raises_own T.exC T.tyC, q1 d (I1.hok.fresh M.big)⟩
    · by_cases hb : b = e
      · have q' : G'.get? b = some o := q
        rw [hb, ge] at q'; cases q'
      · exact (gk b hb).symm.trans q
    · rw [upd_ne (Ne.symm M.ne)]
      exact I1.hok.fresh M.new
end
end XS

namespace XL
theorem relO_f {v : V} {v' : Value} (r : RelV v v') (f : Str) : RelO (List.lookup f [(("limit" : Str), v)]) (if f = "limit" then some v' else none) := by
  by_cases hw : f = "limit"
  · subst hw
    rw [if_pos rfl]
    have q : List.lookup ("limit" : Str) [(("limit" : Str), v)] = some v := by simp [List.lookup]
    rw [q]
    exact r
  · rw [if_neg hw]
    have qw : (f == ("limit" : Str)) = false := by simpa using hw
    have q2 : List.lookup f [(("limit" : Str), v)] = none := by simp [List.lookup, qw]
    rw [q2]
    trivial
section
variable {X : Cx} {C fI : Addr} {nm : Str} {bmB : List Value} {B newId initId : String}
theorem pmk {a : Expr} {ta : TA} {p pos : Pos} {k : Nat} (FB : ExcBaseFacts B newId initId bmB) (SF : StoreFacts B bmB "object.__setattr__" "object") (T : XT X.K X.mg nm bmB newId C fI) (hr : Room k X.A) (ha : PA X [a] ta) (hg : Gl X nm)
    (hdb : (nm == ("__debug__" : Str)) = false := by decide)
    (he : starEach (a :: []) X.env = (false, eval a X.env) :: starEach [] X.env := by rfl) (hpl : (backTo pos (starEach [] X.env)).any (·.1) = false := by rfl) :
    PMk X (.Call (.Name nm p) [a] [] pos) (tMkF C "limit" ta) := by
  intro pins s σ H Q I h
  refine wpAny_Call_Name_kw (ld_glob I hg T.gC ?_ hdb)
  refine PySem.W.callWith_K (h₀ := X.base) I.ok.mod.kin T.kC (thn (ha.run pos pins s σ H _ I h) fun us s1 hh => ?_) he hpl
  obtain ⟨vs, H1, I1, r1, v, ev, q1⟩ := hh
  subst ev
  refine ⟨I1.kIn, ?_⟩
  cases r1 with
  | cons rv rn =>
    rename_i v' us'
    cases rn
    show wpAny _ _ (call (.ref C) [v']) _ _ _
    have hlim := I1.nolimit
    obtain ⟨hp, g, dr, tk, os⟩ := s1
    refine wpAny_call (made FB SF T I1.kIn hlim (by have := hr.dp; omega) fun h' tk' e d M => ?_)
    show MkP X pins σ Q (.ref e) ⟨h', g, dr, tk', os⟩
    obtain ⟨t1, hoe⟩ := M.obj
    have hns := M.ns
    obtain ⟨G', g1, g2⟩ := restrict h' fun b => decide (b ≠ e)
    have gk : ∀ b, b ≠ e → G'.get? b = h'.get? b := fun b hb => g1 b (decide_eq_true hb)
    have ge : G'.get? e = none := g2 e (by simp)
    have old : ∀ b o, hp.get? b = some o → G'.get? b = some o := fun b o q => (gk b (Nat.ne_of_lt (Nat.lt_of_lt_of_le (Heap.lt_size q) M.new))).trans (M.keep b o q)
    have ob : ObjOk X.prog X.w (upd H1 d (.xd [(("limit" : Str), v)])) G' d (.xd [(("limit" : Str), v)]) :=
      ⟨_, hns.at (fun o q => (gk d M.ne).trans q), fun f => relO_f rv f⟩
    have J : Inv X pins σ (upd H1 d (.xd [(("limit" : Str), v)])) ⟨G', g, dr, tk', os⟩ := I1.laid (t' := tk') old M.big ob
    refine ⟨e, _, _, ⟨G', g, dr, tk', os⟩, _, .ref C, some d, rfl, J, fun b o q => ?_, ge, hoe, ⟨rfl, rfl⟩, rfl, rfl, ?_, rfl, I1.bare, raises_own T.exC T.tyC, q1 d (I1.hok.fresh M.big)⟩
    · by_cases hb : b = e
      · have q' : G'.get? b = some o := q
        rw [hb, ge] at q'; cases q'
      · exact (gk b hb).symm.trans q
    · rw [upd_ne (Ne.symm M.ne)]
      exact I1.hok.fresh M.new
end
end XL
end GDX

set_option maxHeartbeats 2000000
/-! try: .. except (A, B) as n: ..; behind the suite the caught error stands tracked -/
namespace GDX
open PySem PySem.Spec PyProof.Rows L2 GD
theorem xo_ok {P : Program} {w : World} {H : Hp} {h : Heap} {a : Addr} {cls : Value} {d : Option Addr} {oe : Obj} {vs : Array Value} (e : h.get? a = some oe) (z : Zc cls d oe) (f : oe.data = .fields vs) : ObjOk P w H h a (XO cls d a) :=
  ⟨⟨oe, vs, e, z, f⟩, ⟨oe, e⟩, fun _ _ ⟨oe', vs', e', zf⟩ kp => ⟨oe', vs', kp oe' e', zf⟩⟩
theorem xo_get {P : Program} {w : World} {H : Hp} {h : Heap} {a : Addr} {cls : Value} {d : Option Addr} (hok : HOk P w H h) (e : H a = some (XO cls d a)) : ∃ (oe : Obj) (vs : Array Value), h.get? a = some oe ∧ Zc cls d oe ∧ oe.data = .fields vs := (hok a _ e).1
section
variable {X : Cx} {pins : List (Addr × Obj)} {σ : L2.St} {H : Hp} {s : Shared}
/-- an object that nobody tracks, not there at the entry, is tracked from now on -/
theorem track {a : Addr} {cls : Value} {d : Option Addr} {oe : Obj} {vs : Array Value} (I : Inv X pins σ H s) (ha : s.heap.get? a = some oe) (hz : Zc cls d oe) (hv : oe.data = .fields vs) (na : H a = none) (n0 : X.s_0.heap.get? a = none) (nL : a ≠ X.env.locals)
    (np : ∀ p ∈ X.pn ++ pins, p.1 ≠ a) : Inv X pins σ (upd H a (XO cls d a)) s := by
  have other : ∀ {b : Addr} {u : HO}, H b = some u → upd H a (XO cls d a) b = some u := fun e => by rw [upd_ne (ne_of_none e na)]; exact e
  have nC : ∀ x c, X.env.cells.lookup x = some c → c ≠ a := fun x c e z => by
    obtain ⟨v, o, ho, hc⟩ := I.cell x c e
    rw [z, ha] at ho
    cases ho
    rw [hv] at hc
    cases hc
  refine { ok := I.ok, os := I.os, bare := I.bare, base := ?_, loc := I.loc, cell := I.cell, free := ?_, freeC := fun x c e => ?_, pin := fun p hp => ?_, hok := fun b u e => ?_, len := I.len }
  · refine { keep := I.base.keep, slot := I.base.slot, free := fun b o e n nx => ?_, there := I.base.there, tups := fun b xs e => other (I.base.tups b xs e), frzs := fun b o u e => other (I.base.frzs b o u e), tbls := fun b ps e => ?_ }
    · rw [upd_ne (fun z => by rw [z, n0] at e; cases e)]
      exact I.base.free b o e n nx
    · obtain ⟨m, q⟩ := I.base.tbls b ps e
      exact ⟨m, other q⟩
  · rw [upd_ne nL.symm]
    exact I.free
  · rw [upd_ne (nC x c e)]
    exact I.freeC x c e
  · obtain ⟨p1, p2, p3⟩ := I.pin p hp
    exact ⟨p1, by rw [upd_ne (np p hp)]; exact p2, p3⟩
  · by_cases hb : b = a
    · subst hb
      rw [upd_same] at e
      cases e
      exact xo_ok ha hz hv
    · rw [upd_ne hb] at e
      exact (I.hok b u e).stay (fun _ _ _ q => q) (fun _ q => other q) fun _ _ q => other q
end
theorem fly_keeps {B h h' : Heap} {l : List Env} {a : Addr} {Z : Obj → Prop} (x : HandSPX.FlyingZ B l a Z h) (k : ∀ b o, h.get? b = some o → h'.get? b = some o) : HandSPX.FlyingZ B l a Z h' := by
  obtain ⟨x1, x2, x3, oe, vs, T, oT, ts, y1, y2, y3, y4, y5, y6, y7, y8⟩ := x
  exact ⟨fun b o e => k b o (x1 b o e), x2, x3.of_keeps fun b o e _ => ⟨o, k b o e, rfl⟩, oe, vs, T, oT, ts, k _ _ y1, y2, y3, y4, y5, y6, k _ _ y7, y8⟩
/-- what the clause wishes of an error of the body: it is caught, and the suite runs with it tracked -/
def wTr (K : PySem.W.Frag) (c1 c2 : Value) (i : Nat) (ts : TS) (D : Ends) : WX := fun cls d σ H => PySem.W.exmAny K cls [c1, c2] = some true ∧ ∀ a, H a = none →
  ts { nx := fun σ' H' => D.nx (σ'.set i none) H', rt := D.rt, bk := fun σ' H' => D.bk (σ'.set i none) H', ct := fun σ' H' => D.ct (σ'.set i none) H' } (σ.set i (some (.ref a))) (upd H a (XO cls d a))
theorem into {X : Cx} {pins : List (Addr × Obj)} {σ : L2.St} {H : Hp} {s : Shared} (I : Inv X pins σ H s) (a : Addr) : Inv (X.suite a (X.pn ++ pins)) [] σ H s :=
  { ok := I.ok.suite _ _, os := I.os, bare := I.bare, base := I.base, loc := I.loc, cell := I.cell, free := I.free, freeC := I.freeC, pin := fun p hp => I.pin p (by rwa [List.append_nil] at hp), hok := I.hok, len := I.len }
theorem outof {X : Cx} {pins pn' : List (Addr × Obj)} {σ : L2.St} {H : Hp} {s : Shared} {a : Addr} (I : Inv (X.suite a (X.pn ++ pins)) pn' σ H s) (ok : X.Ok) : Inv X pins σ H s :=
  { ok := ok, os := I.os, bare := I.bare, base := I.base, loc := I.loc, cell := I.cell, free := I.free, freeC := I.freeC, pin := fun p hp => I.pin p (List.mem_append_left _ hp), hok := I.hok, len := I.len }
section
variable {X : Cx} {x1 x2 n : Str} {c1 c2 : Value} {i kk : Nat} {body suite : List Stmt} {b₀ : Stmt} {p1 p2 tp pos pos' : Pos} {tb : WX → TS} {ts : TS}
theorem ld_cls {Y : Cx} {pins : List (Addr × Obj)} {σ : L2.St} {H : Hp} {s : Shared} {x : Str} {c : Value} {p : Pos} {Q : Value → Shared → Prop} {E : Value → Shared → Prop} (hc : Names Y x c) (I : Inv Y pins σ H s) (q : Q c s) : wpAny (model Y.prog Y.w) Y.A (eval (.Name x p) Y.env) Q E s := by
  obtain ⟨g1, g2, m | ⟨m1, m2, m3⟩⟩ := hc
  · exact ld_glob I g1 m q g2
  · exact ld_blt I g1 m1 m2 q m3 g2
theorem ps_tryT (hs : X.stack = X.env :: X.outer) (hf : X.env.frame = some X.env.locals) (hex : X.ex = []) (hN : X.N.Nodup) (hi : X.N[i]? = some n) (hln : X.env.kindOf n = some .local) (n1 : Names X x1 c1) (n2 : Names X x2 c2)
    (hb : ∀ (W : WX) (pn : List (Addr × Obj)) (xe : Value → Shared → Prop), Takes (X.tr pn xe) W → PassesOwn (model X.prog X.w) X.A X.env xe → PSs (X.tr pn xe) body (tb W))
    (hsu : ∀ (a : Addr) (pn : List (Addr × Obj)), PSs (X.suite a pn) (b₀ :: suite) ts) :
    PS X (.Try body [.ExceptHandler (some (.Tuple [.Name x1 p1, .Name x2 p2] kk tp)) (some n) (b₀ :: suite) pos'] [] [] pos) (fun D σ H => tb (wTr X.K c1 c2 i ts D) D σ H) := by
  constructor
  intro pins s σ H D I h
  have okX := I.ok
  have frames : X.A.frames = some (X.env :: X.outer) := okX.frames.trans (congrArg some hs)
  refine wpAny_Try_except (wpAny_mono ((hb (wTr X.K c1 c2 i ts D) (X.pn ++ pins) (fun u s₁ => wpAny (model X.prog X.w) X.A (noteFrame u X.env) (fun _ s₂ => wpAny (model X.prog X.w) X.A (setFlight u none) (fun _ s₃ =>
    wpAny (model X.prog X.w) X.A (handleBy u X.env [.ExceptHandler (some (.Tuple [.Name x1 p1, .Name x2 p2] kk tp)) (some n) (b₀ :: suite) pos']) (SP X pins D) X.xe s₃) X.xe s₂) X.xe s₁) (fun u s' caught => ?_) PassesOwn.looking).run [] s σ H D (I.toTry _) h) (fun fl s1 out => ?_) fun _ _ z => z)
  · obtain ⟨a, B, sI, pins', σ', H', cls, d, rfl, JT, ground, slots, sky, na, os, gens, hm, good⟩ := caught
    have J : Inv X pins σ' H' sI := JT.ofTry okX
    rw [show X.stack = X.env :: X.outer from hs] at sky
    show wpAny (model X.prog X.w) X.A (noteFrame (.ref a) X.env) _ _ _
    refine Sky.land Zc.steady frames hf sky fun h3 f3 u3 => ?_
    have JL : Inv X pins σ' H' { s' with heap := h3 } := J.landed ground f3.1 (slots.trans u3) os gens
    obtain ⟨oe3, vs3, g3, z3, d3⟩ := f3.there
    have noFrame : a ∉ frs (X.env :: X.outer) := fun m => by
      obtain ⟨_, ob, e1, e2⟩ := f3.2.2.1.mem m
      rw [g3] at e1
      cases e1
      exact e2 _ d3
    have nL : a ≠ X.env.locals := fun z => noFrame (List.mem_filterMap.mpr ⟨X.env, List.mem_cons_self, by rw [hf, z]⟩)
    have nF : a ∉ X.fs := fun m => by
      obtain ⟨v, hv, e⟩ := List.mem_filterMap.mp m
      exact noFrame (List.mem_filterMap.mpr ⟨v, List.mem_cons_of_mem _ hv, e⟩)
    have newI : ∀ o, sI.heap.get? a ≠ some o := fun o e => by
      have := ground a o e (by rw [hs]; exact noFrame)
      rw [f3.2.1] at this
      cases this
    have n0 : X.s_0.heap.get? a = none := by
      cases e : X.s_0.heap.get? a with
      | none => rfl
      | some o =>
        obtain ⟨o', e'⟩ := J.base.there a o e (by rw [hex]; exact fun z => nomatch z)
        exact absurd e' (newI o')
    have np : ∀ p ∈ X.pn ++ pins, p.1 ≠ a := fun p hp z => newI p.2 (by rw [← z]; exact (J.pin p hp).1)
    have S3 := JL.suite g3 d3 na nL nF
    refine wpAny_handleBy_cons (codeAny_handlers_test ?_) (by intro q; cases q)
    have ty3 : PySem.W.Looks (model X.prog X.w) h3 (typeOf (.ref a)) cls := fun A Q E st kp q => wpAny_typeOf_ref (kp _ _ g3) (by rw [z3.1]; exact q)
    have m1 : Names (X.suite a ((a, oe3) :: (X.pn ++ pins))) x1 c1 := n1
    have m2 : Names (X.suite a ((a, oe3) :: (X.pn ++ pins))) x2 c2 := n2
    refine wpAny_Tuple (wpAny_items_cons (ld_cls m1 S3 ?_))
    refine wpAny_items_cons (ld_cls m2 S3 ?_)
    refine wpAny_items_nil ⟨by size_fits, ?_⟩
    have kp : ∀ b o, h3.get? b = some o → (h3.push { cls := .type "tuple", data := .seq [c1, c2].toArray }).get? b = some o := fun _ _ e => Heap.get?_push_of_some _ e
    refine (PySem.W.exm_tup2 (JL.kIn.keeps kp) (ty3.keeps kp) (Heap.get?_push_size h3 rfl) hm).here ?_
    have f5 := fly_keeps f3 kp
    have u5 := (slots.trans u3).trans (Heap.UpToSlots.of_keeps kp)
    refine codeAny_handlers_suite_as (HandSPX.lands_againZ f5 fun h6 f6 u6 => ?_)
    have J6 : Inv X pins σ' H' { s' with heap := h6 } := J.landed ground f6.1 (u5.trans u6) os gens
    obtain ⟨oe6, vs6, g6, z6, d6⟩ := f6.there
    refine store_ok (X := X.suite a (X.pn ++ pins)) (v := .ref a) (into (track J6 g6 z6 d6 na n0 nL np) a) hN hi (.inl hln) rfl (fun s7 I7 => ?_) (.inr hln)
    refine wpAny_mono ((hsu a (X.pn ++ pins)).run [] s7 _ _ _ I7 (good a na)) (fun fl s8 out => ?_) fun _ _ z => False.elim z
    have back : ∀ {σ8 : L2.St} {H8 : Hp} {Q : Shared → Prop}, Inv (X.suite a (X.pn ++ pins)) [] σ8 H8 s8 → (∀ s9, Inv X pins (σ8.set i none) H8 s9 → Q s9) →
        wpAny (model X.prog X.w) X.A (do bindName X.env n .none; unbindBehindTheSuite X.env n pos') (fun _ s9 => Q s9) X.xe s8 := fun {σ8 H8 Q} I8 k => gone_ok (outof I8 okX) hN hi hln k
    cases fl with
    | next =>
      obtain ⟨_, _, I8, q⟩ := out
      exact back I8 fun s9 I9 => ⟨_, _, I9, q⟩
    | brk =>
      obtain ⟨_, _, I8, q⟩ := out
      exact back I8 fun s9 I9 => ⟨_, _, I9, q⟩
    | cont =>
      obtain ⟨_, _, I8, q⟩ := out
      exact back I8 fun s9 I9 => ⟨_, _, I9, q⟩
    | ret u =>
      obtain ⟨_, _, _, I8, r8, q⟩ := out
      exact back I8 fun s9 I9 => ⟨_, _, _, I9, r8, q⟩
  · cases fl with
    | next =>
      obtain ⟨_, _, J, q⟩ := out
      exact wpAny_execs_nil ⟨_, _, J.ofTry okX, q⟩
    | brk =>
      obtain ⟨_, _, J, q⟩ := out
      exact ⟨_, _, J.ofTry okX, q⟩
    | cont =>
      obtain ⟨_, _, J, q⟩ := out
      exact ⟨_, _, J.ofTry okX, q⟩
    | ret u =>
      obtain ⟨_, _, _, J, r, q⟩ := out
      exact ⟨_, _, _, J.ofTry okX, r, q⟩
end
end GDX

set_option maxHeartbeats 2000000
/-! an error that was caught: its field, isinstance of it -/
namespace PySem.W
open PySem PySem.Spec PySem.Calls PyProof.Rows
section
variable {prog : Program} {w : World} {A : Around} {E : Value → Shared → Prop} {s : Shared} {K : Frag} {x C : Addr} {ox : Obj} {od : Option Obj}
theorem gd_findD {name : Str} {a g : Value} (hc : (clsIn K C).isSome = true) (ha : findIn K (.ref C) name = some (some a)) (hg : specialIn K a "__get__" = some (some g)) (ht : takesIn K a = some true) : findObj K C od name = some (.bind g a) := by
  cases hcd : clsIn K C with
  | none => rw [hcd] at hc; cases hc
  | some cd =>
    unfold findObj
    rw [hcd, Option.bind_some, ha, Option.bind_some]
    simp [hg, ht]
/-- x.__class__ of an instance of an own error class that has a dict -/
theorem gd_class (T : L2.ExcC K C) {Q : Option Value → Shared → Prop} (X : K.In s.heap) (I : InstAt s.heap x ox C od) (h : Q (some (.ref C)) { s with toks := s.toks + 1 }) : wpAny (model prog w) A (getAttr? (.ref x) "__class__") Q E s := by
  have fo : findObj K C od "__class__" = some (.bind (.builtin "getset_descriptor.__get__") (.builtin "object.__class__")) := gd_findD (by obtain ⟨cd, e, _⟩ := any_some T.hd; rw [e]; rfl) T.ha T.hn T.ht
  obtain ⟨hp, gs, dr, tk, os⟩ := s
  have k0 := I.type (M := model prog w)
  have k1 := looks_findIn (M := model prog w) X T.hg
  have k2 := looks_findIn (M := model prog w) X T.hk
  have k3 := looks_find (M := model prog w) X I fo
  have ks : Looks (model prog w) hp (isInstance (.ref x) (.type "BaseException")) true := k0.andThen (looks_subIn X T.hs)
  have n1 : (false && onTheHeap (Value.builtin "BaseException.__getattribute__")) = false := rfl
  have n2 : (onTheHeap (Value.ref C) && Value.builtin "BaseException.__getattribute__" == Value.builtin "object.__getattribute__") = false := by
    have : (Value.builtin "BaseException.__getattribute__" == Value.builtin "object.__getattribute__") = false := by decide +kernel
    rw [this]
    rfl
  unfold getAttr? getAttrBy? getAttrBy
  refine wpAny_bind (wpAny_mkText (wpAny_bind (wpAny_attempt (wpAny_holding (wpAny_bind (k0.at (wpAny_bind (k1.at ?_))))))))
  show wpAny _ _ (ite ((onTheHeap (Value.ref C) && Value.builtin "BaseException.__getattribute__" == Value.builtin "object.__getattribute__") = true) _ _) _ _ _
  rw [n2, if_neg Bool.false_ne_true]
  unfold getAttrByItsOwn hookBefore
  refine wpAny_bind ?_
  rw [if_pos (show onTheHeap (Value.ref C) = true from rfl)]
  refine k2.at (wpAny_bind (wpAny_attempt (wpAny_holding ?_)))
  unfold callGetattribute
  rw [n1, if_neg Bool.false_ne_true]
  unfold boundAndCalled
  rw [PySem.F.excAttr_ValueError.ga.bind (.ref x)]
  refine wpAny_bind (wpAny_pure ?_)
  show wpAny _ _ (call (.builtin "BaseException.__getattribute__") [.ref x, .str "__class__" tk]) _ _ _
  refine wpAny_call (codeAny_call_builtin PySem.F.excAttr_ValueError.ga.plain PySem.F.entry_bexc_ga ?_)
  have args := PySem.F.args_bexc_ga (.ref x) (.str "__class__" tk)
  refine @check_slot (model prog w) _ _ ⟨hp, gs, dr, tk + 1, os⟩ "BaseException.__getattribute__" "BaseException" "__getattribute__" (.ref x) [.str "__class__" tk] [] _ (by decide +kernel) (by decide +kernel) ks args ?_
  unfold Builtin.«object.__getattribute__»
  refine wpAny_bind (wpAny_of_eq (a := ((.ref x : Value), [(.str "__class__" tk : Value)])) (by first | rfl | (simp only [slotArgs]; rfl)) ?_)
  refine wpAny_bind (wpAny_pure (wpAny_bind (k0.at (wpAny_bind (k3.at ?_)))))
  show wpAny _ _ (holding [Value.builtin "object.__class__"] (call (.builtin "getset_descriptor.__get__") [.builtin "object.__class__", .ref x, .ref C]) >>= ret) _ _ _
  refine wpAny_bind (wpAny_holding (wpAny_call (class_get (s := ⟨hp, gs, dr, tk + 1, os⟩) X I T.hm (wpAny_pure ?_))))
  show wpAny _ _ (handedOut (Value.ref C)) _ _ _
  rw [handedOut_of (v := Value.ref C) rfl]
  first
    | exact wpAny_pure (wpAny_pure h)
    | exact wpAny_pure h
    | exact wpAny_pure (wpAny_bind (wpAny_pure (wpAny_pure h)))
theorem gd_kitx (T : L2.ExcC K C) : KitX K (.ref x) (.ref C) (fun h => InstAt h x ox C od) where
  ty := fun _ _ _ I => I.type
  ca := fun X I k => gd_class T X I k
  it := fun _ _ X _ => by
    obtain ⟨cd, e, _⟩ := any_some T.hd
    unfold clsIn at e
    split at e
    · rename_i ho
      intro A' Q' E' s' kp q
      unfold isType loadHead
      exact wpAny_bind (wpAny_loadPart (kp _ _ (X _ _ ho)) (wpAny_pure q))
    · cases e
  ne := fun h tp dd its n sl X ht => by
    obtain ⟨cd, e, _⟩ := any_some T.hd
    refine Bool.eq_false_iff.mpr fun q => ?_
    obtain rfl : C = tp := Value.ref.inj (beq_iff_eq.mp q)
    unfold clsIn at e
    split at e
    · rename_i ho
      have := (X _ _ ho).symm.trans ht
      cases this
    · cases e
end
end PySem.W
namespace GDX
open PySem PySem.Spec PyProof.Rows L2 GD
section
variable {X : Cx}
theorem inst_of {pins : List (Addr × Obj)} {σ : L2.St} {H : Hp} {s : Shared} {a C dx : Addr} {fs : List (Str × V)} (I : Inv X pins σ H s) (h : H a = some (XO (.ref C) (some dx) a)) (hd : H dx = some (.xd fs)) :
    ∃ (oe od : Obj) (mA : Str → Option Value), PySem.W.InstAt s.heap a oe C (some od) ∧ (∀ n, PySem.W.lookIn n od = some (mA n)) ∧ ∀ f, RelO (fs.lookup f) (mA f) := by
  obtain ⟨oe, vs, e, z, v⟩ := xo_get I.hok h
  have hx : ObjOk X.prog X.w H s.heap dx (.xd fs) := I.hok dx _ hd
  obtain ⟨mA, hns, hr⟩ := hx
  obtain ⟨od, ho, hl⟩ := lookIn_ns hns
  exact ⟨oe, od, mA, ⟨e, z.1, by unfold PySem.W.notCls; rw [v] <;> rfl, by rw [z.2]; exact ho⟩, hl, hr⟩
/-- e.n, e a caught error -/
def tXF (K : PySem.W.Frag) (n : Str) (te : TE) : TE := fun σ H Q => te σ H fun x H1 => ∃ (a C dx : Addr) (fs : List (Str × V)) (v : V), x = .ref a ∧ H1 a = some (XO (.ref C) (some dx) a) ∧ H1 dx = some (.xd fs) ∧ fs.lookup n = some v ∧
  XfC K C ∧ PySem.W.findIn K (.ref C) n = some none ∧ Q v H1
theorem pe_xF {e : Expr} {te : TE} {pos : Pos} {n : Str} (he : PE X e te) (hb : attributeBase e n X.env (eval e X.env) = eval e X.env := by rfl) : PE X (.Attribute e n pos) (tXF X.K n te) := by
  constructor
  intro pins s σ H Q I h
  refine attr_of hb (thn (he.run pins s σ H _ I h) fun u s1 hh => ?_)
  obtain ⟨x, H1, I1, rx, a, C, dx, fs, v, rfl, ea, ed, el, T, hno, q⟩ := hh
  obtain rfl : u = Value.ref a := rx
  obtain ⟨oe, od, mA, J, hl, hr⟩ := inst_of I1 ea ed
  obtain ⟨u, hu, ru⟩ := RelO.some_of (v := v) (o := mA n) (by rw [← el]; exact hr n)
  exact HandSPX.exc_get I1.kIn J T.ga T.gg T.exC (PySem.W.findObj_own T.hdC hno rfl (by rw [hl, hu])) (handed_of ru) ⟨v, H1, I1.tok _, ru, q⟩
/-- isinstance(e, c), e a caught error -/
def rIsX (K : PySem.W.Frag) : List V → Hp → VK → Prop := fun xs H Q => ∃ (a C dx : Addr) (fs : List (Str × V)) (c : V) (cv : Value) (b : Bool), xs = [.ref a, c] ∧ H a = some (XO (.ref C) (some dx) a) ∧ H dx = some (.xd fs) ∧ (∀ u, RelV c u → u = cv) ∧ ExcC K C ∧
  PySem.W.kitOne K (.ref C) cv = some b ∧ Q (.bl b) H
theorem call_isX : CallR X (.builtin "isinstance") (rIsX X.K) := by
  intro pins s σ H xs us Q I r h
  obtain ⟨a, C, dx, fs, c, cv, b, rfl, ea, ed, hcv, T, e, q⟩ := h
  match us, r with
  | [_, t], .cons rx (.cons rt .nil) =>
    obtain rfl : _ = Value.ref a := rx
    obtain rfl := hcv t rt
    obtain ⟨oe, od, mA, J, _, _⟩ := inst_of I ea ed
    exact PySem.W.kia_one (PySem.W.gd_kitx T) I.kIn J e (fun z => nomatch z) fun tk => ⟨.bl b, H, I.kept (t' := tk) fun _ _ z => z, rfl, q⟩
/-- the name of an own class -/
theorem pe_gcls {x : Str} {C : Addr} {pos : Pos} (hg : Gl X x) (hm : X.mg x = some (.ref C)) (hd : (x == ("__debug__" : Str)) = false := by decide) : PE X (.Name x pos) (tC (.ref C)) := pe_glob hg hm rfl hd
end
end GDX

set_option maxHeartbeats 2000000
/-! defs that raise, and the try around their call, as data -/
namespace GD
open PySem PySem.Spec PyProof.Rows L2 GDX
/-! ### statements that may raise -/
inductive FlX where
  | fl (f : Fl)
  | rs (nm f : Str) (d : D)
abbrev EvSX := En → Option (FlX × En)
def ZEnd (K : PySem.W.Frag) (F : Frm) (env : En) (σ : L2.St) (H : Hp) (env' : En) (W : WX) (Dn : Ends) : FlX → Prop
  | .fl f => SEnd K F env σ H env' Dn f
  | .rs nm f d => ∀ (C : Addr) (v : V) (σ' : L2.St) (H' : Hp) (dx : Addr), PySem.W.nsIn K mainGlobals nm = some (some (.ref C)) → StOk K F T0 H' env' σ' → Rp K (Ow F T0 env' σ') H' v d → H' dx = none →
    W (.ref C) (some dx) σ' (upd H' dx (.xd [(f, v)]))
def ISX (K : PySem.W.Frag) (t : WX → TS) (f : EvSX) : Prop := ∀ F env σ H fl env', StOk K F T0 H env σ → f env = some (fl, env') → ∀ (W : WX) (Dn : Ends), ZEnd K F env σ H env' W Dn fl → t W Dn σ H
section
variable {K : PySem.W.Frag} {t u : WX → TS} {f g : EvSX}
theorem ZEnd.pre {F : Frm} {env env1 env' : En} {σ σ1 : L2.St} {H H1 : Hp} {W : WX} {Dn : Ends} {fl : FlX} (h : ZEnd K F env σ H env' W Dn fl) (b : Stq env σ H env1 σ1 H1) : ZEnd K F env1 σ1 H1 env' W Dn fl := by
  cases fl with
  | fl f => exact SEnd.pre h b
  | rs nm f d => exact h
def sOf (f : EvS) : EvSX := fun env => (f env).map fun p => (.fl p.1, p.2)
theorem isx_of {t : TS} {f : EvS} (h : IS K t f) : ISX K (fun _ => t) (sOf f) := by
  intro F env σ H fl env' S e W Dn k
  simp only [sOf, Option.map_eq_some_iff] at e
  obtain ⟨⟨f0, e1⟩, a1, a2⟩ := e
  cases a2
  exact h F env σ H f0 _ S a1 Dn k
def sxSeq (f g : EvSX) : EvSX := fun env => (f env).bind fun p => match p.1 with
  | .fl .nx => g p.2
  | r => some (r, p.2)
theorem isx_seq (h1 : ISX K t f) (h2 : ISX K u g) : ISX K (fun W => tSeq (t W) (u W)) (sxSeq f g) := by
  intro F env σ H fl env' S e W Dn k
  simp only [sxSeq, Option.bind_eq_some_iff] at e
  obtain ⟨⟨f0, e1⟩, a1, a2⟩ := e
  match f0, a2 with
  | .fl .nx, a2 => exact h1 F env σ H _ e1 S a1 W _ fun σ' H' S' q => h2 F e1 σ' H' fl env' S' a2 W Dn (k.pre q)
  | .fl .bk, a2 => cases a2; exact h1 F env σ H _ e1 S a1 W _ k
  | .fl .ct, a2 => cases a2; exact h1 F env σ H _ e1 S a1 W _ k
  | .fl (.rt r), a2 => cases a2; exact h1 F env σ H _ e1 S a1 W _ k
  | .rs nm f d, a2 => cases a2; exact h1 F env σ H _ e1 S a1 W _ k
def sxIf (fc : EvT) (f g : EvSX) : EvSX := fun env => (fc env).bind fun p => if p.1 = true then f p.2 else g p.2
theorem isx_if {c : TT} {fc : EvT} (hc : IT K c fc) (h1 : ISX K t f) (h2 : ISX K u g) : ISX K (fun W => tIfS c (t W) (u W)) (sxIf fc f g) := by
  intro F env σ H fl env' S e W Dn k
  simp only [sxIf, Option.bind_eq_some_iff] at e
  obtain ⟨⟨b, e1⟩, a1, a2⟩ := e
  refine hc F T0 env σ H b e1 S a1 _ fun H1 S1 s1 => ?_
  cases b with
  | true =>
    rw [if_pos rfl] at a2
    rw [if_pos rfl]
    exact h1 F e1 σ H1 fl env' S1 a2 W Dn (k.pre s1.q)
  | false =>
    rw [if_neg Bool.false_ne_true] at a2
    rw [if_neg Bool.false_ne_true]
    exact h2 F e1 σ H1 fl env' S1 a2 W Dn (k.pre s1.q)
/-- raise X(e) -/
def tRz (C : Addr) (f : Str) (ta : TA) (W : WX) : TS := fun _ σ H => tMkF C f ta σ H fun cls d H' => W cls d σ H'
def sxRz (nm f : Str) (fa : EvA) : EvSX := fun env => (fa env).bind fun p => match p.1 with
  | [r] => (rk p.2 r).map fun d => (.rs nm f d, p.2)
  | _ => none
theorem isx_rz {C : Addr} {nm fd : Str} {ta : TA} {fa : EvA} (hC : PySem.W.nsIn K mainGlobals nm = some (some (.ref C))) (h : IA K ta fa) : ISX K (tRz C fd ta) (sxRz nm fd fa) := by
  intro F env σ H fl env' S e W Dn k
  simp only [sxRz, Option.bind_eq_some_iff] at e
  obtain ⟨⟨l, e1⟩, a1, a2⟩ := e
  match l, a2 with
  | [r], a2 =>
    simp only [Option.map_eq_some_iff] at a2
    obtain ⟨d, a3, a4⟩ := a2
    cases a4
    refine h F T0 env σ H _ _ S a1 _ fun vs H1 S1 s1 rv => ?_
    match vs, rv with
    | [v], ⟨rv, _⟩ => exact ⟨v, rfl, fun dx nd => k C v σ H1 dx hC S1 (rk_ok S1 rv a3) nd⟩
end
/-! ### defs that raise -/
inductive RX where
  | ret (d : D)
  | rs (nm f : Str) (d : D)
abbrev FnX := List D → Option RX
def runX (n : Nat) (b : EvSX) : FnX := fun ds => (b (env0 n (ds.map Sl.shr))).bind fun p => match p.1 with
  | .fl (.rt (.val d)) => some (.ret d)
  | .fl .nx => some (.ret .none)
  | .rs nm f d => some (.rs nm f d)
  | _ => none
def spX (K : PySem.W.Frag) (k : Nat) (M : FnX) : Sp := fun vs H Q E => ∃ (O : Addr → Prop) (ds : List D) (rx : RX), vs.length = k ∧ (∀ a, O a → H a ≠ none) ∧ RpAll K O H vs ds ∧ M ds = some rx ∧
  (∀ d, rx = .ret d → ∀ v H', Ext (fun _ => False) H H' → Rp K O H' v d → Q v H') ∧
  (∀ nm f d, rx = .rs nm f d → ∀ (C : Addr) v H' dx, PySem.W.nsIn K mainGlobals nm = some (some (.ref C)) → Ext (fun _ => False) H H' → H' dx = none → Rp K O H' v d → E (.ref C) (some dx) (upd H' dx (.xd [(f, v)])))
section
variable {K : PySem.W.Frag}
theorem start_ok {O : Addr → Prop} {H : Hp} {vs : List V} {ds : List D} {N : List Str} (hO : ∀ a, O a → H a ≠ none) (r : RpAll K O H vs ds) : StOk K ⟨O, fun _ => False, H, vs⟩ T0 H (env0 N.length (ds.map Sl.shr)) (L2.start N vs) := by
  have hl := r.length
  have getD : ∀ (i : Nat) (s : Sl), (env0 N.length (ds.map Sl.shr))[i]? = some (some s) → ∃ d, ds[i]? = some d ∧ s = .shr d := fun i s e => by
    have e' := env0_get e
    rw [List.getElem?_map, Option.map_eq_some_iff] at e'
    obtain ⟨d, e1, e2⟩ := e'
    exact ⟨d, e1, e2.symm⟩
  have noWr : ∀ a, ¬ Wr (env0 N.length (ds.map Sl.shr)) (L2.start N vs) a := fun a ⟨i, p, m, e, _⟩ => by
    obtain ⟨d, _, e2⟩ := getD i _ e
    cases e2
  refine ⟨by simp [env0, L2.start, hl], fun i d e => ?_, fun i p m e => ?_, fun i j p q m n a e _ _ _ => ?_, Ext.refl, hO, fun a h => h.elim, fun a h => h.elim, fun a h => h.elim⟩
  · obtain ⟨d', e1, e2⟩ := getD i _ e
    cases e2
    obtain ⟨v, hv, rv⟩ := r.get e1
    exact ⟨v, start_get hv, rv.anti fun a h => h.elim id fun h => h.elim (fun z => z.elim) fun z => absurd z (noWr a)⟩
  · obtain ⟨d', _, e2⟩ := getD i _ e
    cases e2
  · obtain ⟨d', _, e2⟩ := getD i _ e
    cases e2
theorem body_okX {t : WX → TS} {b : EvSX} {N : List Str} {vs : List V} {H : Hp} {Q : VK} {E : XK} {k : Nat} (hb : ISX K t b) (h : spX K k (runX N.length b) vs H Q E) :
    t (fun cls d _ H => E cls d H) { nx := fun _ H' => Q .non H', rt := Q } (L2.start N vs) H := by
  obtain ⟨O, ds, rx, hl, hO, r, hm, q1, q2⟩ := h
  simp only [runX, Option.bind_eq_some_iff] at hm
  obtain ⟨⟨fl, env'⟩, h1, h2⟩ := hm
  have x : ∀ {T' : Addr → Prop} {H' : Hp} {e' : En} {σ' : L2.St}, StOk K ⟨O, fun _ => False, H, vs⟩ T' H' e' σ' → Ext (fun _ => False) H H' := fun S => S.ext
  refine hb ⟨O, fun _ => False, H, vs⟩ _ _ H fl env' (start_ok hO r) h1 _ _ ?_
  match fl, h2 with
  | .fl .nx, h2 =>
    cases h2
    exact fun σ' H' S' _ => q1 _ rfl _ _ (x S') .non
  | .fl (.rt (.val d)), h2 =>
    cases h2
    exact fun v σ' H' hr => q1 _ rfl _ _ (x hr.1) (hr.2.anti fun a h => .inl h)
  | .rs nm f d, h2 =>
    cases h2
    exact fun C v σ' H' dx hC S' rv nd => q2 _ _ _ rfl C v H' dx hC (x S') nd (rv.anti fun a h => .inl h)
  | .fl .bk, h2 => cases h2
  | .fl .ct, h2 => cases h2
  | .fl (.rt (.new m)), h2 => cases h2
end
theorem fnX {P : Program} {w : World} {K : PySem.W.Frag} {mg : Str → Option Value} {base : Heap} {x qual : Str} {st : Stmt} {f : Addr} {fd : FuncData} {N ps : List Str} {k : Nat} {b : EvSX} (F : Fun K x qual st f fd) (S : FnScope N ps (defScope st))
    (hbody : ∀ (cdv : Value) (A : Around) (outer : List Env) (s : Shared) (H : Hp) (E : XK), A.guards = some [] → Room k (A.deeper (envOfC qual (defScope st) s.heap.objs.size f cdv)) →
      ∃ t : WX → TS, (∀ W, Takes (cxOf (L2.CX P w) P w K mg base N qual (defScope st) f cdv A outer s H E) W → PSs (cxOf (L2.CX P w) P w K mg base N qual (defScope st) f cdv A outer s H E) (defBody st) (t W)) ∧ ISX K t b) : FnG P w K mg base (L2.CX P w) (k + 1) f fd ps (spX K ps.length (runX N.length b)) := by
  obtain ⟨oc, od, kV, doc, pm, an, cdv, ct, osl, rfl, lk, hcd⟩ := F.ex
  refine fn_ofG lk hcd S (fun vs H Q E h => ?_) fun A outer s H vs Q E hg hr h => ?_
  · obtain ⟨O, ds, rx, hl, _⟩ := h
    exact hl
  · obtain ⟨t, h1, h2⟩ := hbody cdv A outer s H E hg hr
    exact ⟨_, h1 _ (takes_of rfl rfl rfl rfl), body_okX h2 h⟩
/-! ### the call in a try -/
def tCKS (sp : Sp) (gV : List V → List V → List V) (W : WX) (t tk : TA) : TE := fun σ H Q => t σ H fun vs H1 => tk σ H1 fun zs H2 => sp (gV vs zs) H2 Q (WE W σ)
section
variable {X : Cx} {W : WX} {k : Nat} {f : Addr} {fd : FuncData} {ps ks : List Str} {sp : Sp} {x : Str} {p pos : Pos} {e : Expr} {es : List Expr} {t tk : TA} {kws : List Keyword} {g : List Value → List Value → List Value} {gV : List V → List V → List V}
theorem run_gkS {pins : List (Addr × Obj)} {σ : L2.St} {H : Hp} {s : Shared} {Q : VK} {us ws : List Value} {vs zs : List V} (F : FnG X.prog X.w X.K X.mg X.base (L2.CX X.prog X.w) k f fd ps sp) (hgd : X.A.guards = some []) (hr : Room k X.A) (hb : KBinds X.K fd ps ks g gV)
    (tkW : Takes X W) (I : Inv X pins σ H s) (r : Vals vs us) (rz : Vals zs ws) (h : sp (gV vs zs) H Q (WE W σ)) : wpAny (model X.prog X.w) X.A (call (.ref f) us (ks.zip ws)) (EP X pins σ Q) X.xe s := by
  have rel := hb.rel r rz
  have len : (g us ws).length = ps.length := (Vals.length rel).symm.trans (F.len _ _ _ _ h)
  refine wpAny_call (codeAny_mono (F.run X.A X.stack s H ⟨us, ks.zip ws⟩ (g us ws) (gV vs zs) Q (WE W σ) hgd hr I.env0 (hb.to s us ws I.kIn len) rel h) fun r s' hq => ?_)
  match r, hq with
  | .error er, hq => exact passAt tkW σ pins H s er s' I hq
  | .ok (.ret u), hq => exact I.after hq
  | .ok .next, hq => exact (show False from hq).elim
  | .ok .brk, hq => exact (show False from hq).elim
  | .ok .cont, hq => exact (show False from hq).elim
theorem pe_callKS (F : FnG X.prog X.w X.K X.mg X.base (L2.CX X.prog X.w) k f fd ps sp) (hgd : X.A.guards = some []) (hr : Room k X.A) (hg : Gl X x)
    (hm : X.mg x = some (.ref f)) (hk : PySem.W.keepIn X.K (.ref f) = true) (hb : KBinds X.K fd ps ks g gV) (tkW : Takes X W)
    (ha : PA X (e :: es) t) (hkw : PK X kws tk) (hall : (backToKw pos (keywordEach kws X.env)).all (·.1.isSome) = true := by rfl)
    (hks : (backToKw pos (keywordEach kws X.env)).filterMap (·.1) = ks := by rfl)
    (hdb : (x == ("__debug__" : Str)) = false := by decide)
    (he : starEach (e :: es) X.env = (false, eval e X.env) :: starEach es X.env := by rfl)
    (hpl : ((backTo pos (starEach (e :: es) X.env)).any (·.1) || (backToKw pos (keywordEach kws X.env)).any (·.1.isNone)) = false := by rfl) :
    PE X (.Call (.Name x p) (e :: es) kws pos) (tCKS sp gV W t tk) := by
  constructor
  intro pins s σ H Q I h
  refine wpAny_Call_Name_kw (ld_glob I hg hm ?_ hdb)
  refine PySem.W.callWith_KW (h₀ := X.base) I.ok.mod.kin hk hall (thn (ha.run pos pins s σ H _ I h) ?_) hpl he
  rintro us s1 ⟨vs, H1, I1, r, q⟩
  refine thn (hkw.run pos pins s1 σ H1 _ I1 q) ?_
  rintro ws s2 ⟨zs, H2, I2, rz, q2⟩
  refine ⟨I2.kIn, ?_⟩
  rw [hks]
  exact run_gkS F hgd hr hb tkW I2 r rz q2
end
/-- x = f(..), the try around it catching what f raises -/
def tTry (K : PySem.W.Frag) (c1 c2 : Value) (i j k : Nat) (M : FnX) (gV : List V → List V → List V) (ta tk : TA) (ts : TS) : TS := fun Dn σ H => tAsg (tCKS (spX K k M) gV (wTr K c1 c2 i ts Dn) ta tk) (gName j) Dn σ H
def sTry (M : FnX) (nms : List Str) (gR : List R → List R → List R) (fa fk : EvA) (j i : Nat) (fs : EvS) : EvS := fun env => (fa env).bind fun p => (fk p.2).bind fun q => (rkA q.2 (gR p.1 q.1)).bind fun ds => (M ds).bind fun rx => match rx with
  | .ret d => some (.nx, q.2.set j (some (.shr d)))
  | .rs nm f d => if nms.contains nm = true then (fs (q.2.set i (some (.shr (excD nm f d))))).bind fun r => match r.1 with
    | .nx => some (.nx, r.2.set i none)
    | .rt (.val d) => some (.rt (.val d), r.2.set i none)
    | _ => none
    else none
section
variable {X : Cx} {x1 x2 n : Str} {c1 c2 : Value} {i j k kk : Nat} {body suite : List Stmt} {b₀ : Stmt} {p1 p2 tp pos pos' : Pos} {M : FnX} {gV : List V → List V → List V} {ta tk : TA} {ts : TS}
theorem ps_try2 (hs : X.stack = X.env :: X.outer) (hf : X.env.frame = some X.env.locals) (hex : X.ex = []) (hN : X.N.Nodup) (hi : X.N[i]? = some n) (hln : X.env.kindOf n = some .local) (n1 : Names X x1 c1) (n2 : Names X x2 c2)
    (hb : ∀ (W : WX) (pn : List (Addr × Obj)) (xe : Value → Shared → Prop), Takes (X.tr pn xe) W → PSs (X.tr pn xe) body (tAsg (tCKS (spX X.K k M) gV W ta tk) (gName j)))
    (hsu : ∀ (a : Addr) (pn : List (Addr × Obj)), PSs (X.suite a pn) (b₀ :: suite) ts) :
    PS X (.Try body [.ExceptHandler (some (.Tuple [.Name x1 p1, .Name x2 p2] kk tp)) (some n) (b₀ :: suite) pos'] [] [] pos) (tTry X.K c1 c2 i j k M gV ta tk ts) :=
  ps_tryT (tb := fun W => tAsg (tCKS (spX X.K k M) gV W ta tk) (gName j)) hs hf hex hN hi hln n1 n2 (fun W pn xe h _ => hb W pn xe h) hsu
end
section
variable {K : PySem.W.Frag}
theorem gone_re {e : En} {σ : L2.St} (i : Nat) : ∀ (j : Nat) (s : Sl), (e.set i none)[j]? = some (some s) → e[j]? = some (some s) ∧ (σ.set i none)[j]? = σ[j]? := fun j s h => by
  by_cases z : i = j
  · subst z
    rcases Nat.lt_or_ge i e.length with c | c
    · rw [List.getElem?_set_self c] at h; cases h
    · rw [List.getElem?_eq_none (by rw [List.length_set]; exact c)] at h; cases h
  · rw [List.getElem?_set_ne z] at h
    exact ⟨h, List.getElem?_set_ne z⟩
theorem is_try {c1 c2 : Value} {i j k : Nat} {M : FnX} {nms : List Str} {gV : List V → List V → List V} {gR : List R → List R → List R} {ta tk : TA} {fa fk : EvA} {ts : TS} {fs : EvS} (ha : IA K ta fa) (hk : IA K tk fk)
    (hp : ∀ {F : Frm} {T : Addr → Prop} {H : Hp} {env : En} {σ : L2.St} {vs us : List V} {l w : List R}, RvAll K F T H env σ vs l → RvAll K F T H env σ us w → RvAll K F T H env σ (gV vs us) (gR l w))
    (hlen : ∀ env l e1 w e2, fa env = some (l, e1) → fk e1 = some (w, e2) → (gR l w).length = k) (hs : IS K ts fs)
    (hc : ∀ nm C, nms.contains nm = true → PySem.W.nsIn K mainGlobals nm = some (some (.ref C)) → PySem.W.exmAny K (.ref C) [c1, c2] = some true) :
    IS K (tTry K c1 c2 i j k M gV ta tk ts) (sTry M nms gR fa fk j i fs) := by
  intro F env σ H fl env' S e Dn hD
  simp only [sTry, Option.bind_eq_some_iff] at e
  obtain ⟨⟨l, e1⟩, a1, ⟨w, e2⟩, a2, ds, a3, rx, a4, a5⟩ := e
  refine ha F T0 env σ H l e1 S a1 _ fun vs H1 S1 s1 rv => ?_
  refine hk F T0 e1 σ H1 w e2 S1 a2 _ fun us H2 S2 s2 rw2 => ?_
  have rr := hp (rv.stp s2) rw2
  have rp := rkA_ok S2 rr a3
  have st := s1.trans s2
  have len : (gV vs us).length = k := by
    have h1 := hlen _ _ _ _ _ a1 a2
    have h2 : ∀ {vs : List V} {l : List R}, RvAll K F T0 H2 e2 σ vs l → vs.length = l.length := by
      intro vs
      induction vs with
      | nil => intro l h; cases l with | nil => rfl | cons _ _ => exact h.elim
      | cons v vs ih => intro l h; cases l with | nil => exact h.elim | cons _ _ => exact congrArg (· + 1) (ih h.2)
    rw [h2 rr, h1]
  refine ⟨Ow F T0 e2 σ, ds, rx, len, fun a h => S2.olive h, rp, a4, fun d hr v H3 x rd => ?_, fun nm f d hr C v H3 dx hC x nd rd => ?_⟩
  · subst hr
    cases a5
    have S3 := S2.lay x
    exact hD _ H3 (S3.setS rd) ((st.trans (Stp.lay x)).q.trans S3.setS_q)
  · subst hr
    dsimp only at a5
    split at a5
    case isFalse => cases a5
    case isTrue hn =>
    simp only [Option.bind_eq_some_iff] at a5
    obtain ⟨⟨fl1, e3⟩, a6, a7⟩ := a5
    refine ⟨hc nm C hn hC, fun a na => ?_⟩
    have y1 : Ext (fun _ => False) H3 (upd H3 dx (.xd [(f, v)])) := Ext.new nd
    have y2 : Ext (fun _ => False) (upd H3 dx (.xd [(f, v)])) (upd (upd H3 dx (.xd [(f, v)])) a (XO (.ref C) (some dx) a)) := Ext.new na
    have S3 := S2.lay x
    have S4 := S3.lay y1
    have S5 := S4.lay y2
    have kp := fun b o (q : H3 b = some o) => y2.same b o (y1.same b o q id) id
    have hdx : (upd (upd H3 dx (.xd [(f, v)])) a (XO (.ref C) (some dx) a)) dx = some (.xd [(f, v)]) := y2.same dx _ upd_same id
    have na' : ¬ Ow F T0 e2 σ a := fun q => S4.olive q na
    have nd' : ¬ Ow F T0 e2 σ dx := fun q => S3.olive q nd
    have hexc : Rp K (Ow F T0 e2 σ) (upd (upd H3 dx (.xd [(f, v)])) a (XO (.ref C) (some dx) a)) (.ref a) (excD nm f d) := .exc hC upd_same na' hdx nd' (rd.tr (fun _ _ _ n => n) fun b o _ q => kp b o q)
    generalize hH5 : upd (upd H3 dx (.xd [(f, v)])) a (XO (.ref C) (some dx) a) = H5 at *
    have st5 : Stq env σ H e2 σ H5 := (((st.trans (Stp.lay x)).trans (Stp.lay y1)).trans (Stp.lay y2)).q
    refine hs F _ _ H5 fl1 e3 (S5.setS hexc) a6 _ ?_
    have fin : ∀ {T' : Addr → Prop} {σ' : L2.St} {H' : Hp}, StOk K F T' H' e3 σ' → StOk K F T' H' (e3.set i none) (σ'.set i none) := fun S' => S'.re (by rw [List.length_set, List.length_set]; exact S'.len) (gone_re i)
    match fl1, a7 with
    | .nx, a7 =>
      cases a7
      exact fun σ' H' S' q => hD _ H' (fin S') ((st5.trans S5.setS_q).trans (q.trans ⟨Ext.refl, fun b hb => .inl (wr_re (gone_re i) b hb)⟩))
    | .rt (.val r), a7 =>
      cases a7
      exact fun v' σ' H' hr => hD v' (σ'.set i none) H' ⟨fin hr.1, hr.2.anti fun b hb => hb.imp id (.imp id (wr_re (gone_re i) b))⟩
    | .rt (.new m), a7 => cases a7
    | .bk, a7 => cases a7
    | .ct, a7 => cases a7
end
/-! ### a caught error's parts -/
def excNm : D → Option Str
  | .dict [(.none, .str nm), (.str _, _)] => some nm
  | _ => none
def excFd (nms : List Str) (n : Str) : D → Option D
  | .dict [(.none, .str nm), (.str f, d)] => if (nms.contains nm && f == n) = true then some d else none
  | _ => none
def eIsX (k : Str → Option Bool) (fe : EvE) : EvE := fun env => (e1 fe env).bind fun p => ((excNm p.1).bind k).map fun b => (.val (.bool b), p.2)
def eXF (nms : List Str) (n : Str) (fe : EvE) : EvE := fun env => (e1 fe env).bind fun p => (excFd nms n p.1).map fun d => (.val d, p.2)
section
variable {K : PySem.W.Frag} {O : Addr → Prop} {H : Hp} {x : V}
theorem exc_lv {es : List (D × D)} {nm f : Str} {d : D} (l : Lv K O H x (.dict es)) (e : es = [(.none, .str nm), (.str f, d)]) :
    ∃ (a dx C : Addr) (y : V), x = .ref a ∧ PySem.W.nsIn K mainGlobals nm = some (some (.ref C)) ∧ H a = some (XO (.ref C) (some dx) a) ∧ H dx = some (.xd [(f, y)]) ∧ Rp K O H y d := by
  rcases l with ⟨a, kvs, ds, rfl, _, _, z⟩ | ⟨a, dx, C, nm', f', y, d', rfl, c, h1, h2, r, z⟩
  · rw [e] at z
    cases kvs with
    | nil => cases z
    | cons q kvs =>
      cases ds with
      | nil => cases z
      | cons d' ds =>
        rw [List.map_cons, List.zip_cons_cons] at z
        have z1 : PyData.none = keyD q.1 := congrArg Prod.fst (List.cons.inj z).1
        cases hq : q.1 with
        | inl i => rw [hq] at z1; cases z1
        | inr i => rw [hq] at z1; cases z1
  · rw [e] at z
    cases z
    exact ⟨a, dx, C, y, rfl, c, h1, h2, r⟩
theorem excNm_of {d : D} {nm : Str} (h : excNm d = some nm) : ∃ f d', d = .dict [(.none, .str nm), (.str f, d')] := by
  unfold excNm at h
  split at h
  · cases h; exact ⟨_, _, rfl⟩
  · cases h
theorem excFd_of {d d1 : D} {nms : List Str} {n : Str} (h : excFd nms n d = some d1) : ∃ nm, nms.contains nm = true ∧ d = .dict [(.none, .str nm), (.str n, d1)] := by
  unfold excFd at h
  split at h
  · split at h
    · rename_i hn
      cases h
      rw [Bool.and_eq_true, beq_iff_eq] at hn
      obtain ⟨hn, rfl⟩ := hn
      exact ⟨_, hn, rfl⟩
    · cases h
  · cases h
theorem ie_isX {c : V} {cv : Value} {k : Str → Option Bool} {te : TE} {fe : EvE} (hcv : ∀ u, RelV c u → u = cv) (hk : ∀ nm b C, k nm = some b → PySem.W.nsIn K mainGlobals nm = some (some (.ref C)) → ExcC K C ∧ PySem.W.kitOne K (.ref C) cv = some b) (he : IE K te fe) :
    IE K (tCB (rIsX K) (tCons te (tCons (tC c) tNil))) (eIsX k fe) := by
  intro F T env σ H r env' S e Q q
  simp only [eIsX, Option.bind_eq_some_iff, Option.map_eq_some_iff] at e
  obtain ⟨⟨d, e1⟩, h1, b, ⟨nm, h2, h2'⟩, h3⟩ := e
  cases h3
  refine i1 he S h1 fun x H' S' st l => ?_
  obtain ⟨f', d', rfl⟩ := excNm_of h2
  obtain ⟨a, dx, C, y, rfl, hC, ha, hd, _⟩ := exc_lv l rfl
  obtain ⟨T1, T2⟩ := hk nm b C h2' hC
  exact ⟨a, C, dx, _, c, cv, b, rfl, ha, hd, hcv, T1, T2, q _ H' S' st (.bl b)⟩
theorem ie_xF {nms : List Str} {n : Str} {te : TE} {fe : EvE} (hk : ∀ nm C, nms.contains nm = true → PySem.W.nsIn K mainGlobals nm = some (some (.ref C)) → XfC K C ∧ PySem.W.findIn K (.ref C) n = some none) (he : IE K te fe) : IE K (tXF K n te) (eXF nms n fe) := by
  intro F T env σ H r env' S e Q q
  simp only [eXF, Option.bind_eq_some_iff, Option.map_eq_some_iff] at e
  obtain ⟨⟨d, e1⟩, h1, d1, h2, h3⟩ := e
  cases h3
  refine i1 he S h1 fun x H' S' st l => ?_
  obtain ⟨nm', hn, rfl⟩ := excFd_of h2
  obtain ⟨a, dx, C, y, rfl, hC, ha, hd, ry⟩ := exc_lv l rfl
  obtain ⟨T1, T2⟩ := hk _ C hn hC
  exact ⟨a, C, dx, _, y, rfl, ha, hd, by simp [List.lookup], T1, T2, q _ H' S' st ry⟩
end
end GD

/-! raising FreeSlot, TableFull; what classes say of one another; equations -/
namespace GD
open PySem PySem.Spec PyProof.Rows L2 GDX
section
variable {X : Cx} {W : WX} {a : Expr} {ta : TA} {C fI : Addr} {nm : Str} {p pos pos2 : Pos} {k : Nat}
abbrev mroLE : List Value := [.type "LookupError", .type "Exception", .type "BaseException", .type "object"]
abbrev mroOE : List Value := [.type "OverflowError", .type "ArithmeticError", .type "Exception", .type "BaseException", .type "object"]
theorem ps_rzLE (T : XS.XT X.K X.mg nm mroLE "LookupError.__new__" C fI) (hc : X.calm = true) (hr : Room k X.A) (tk : Takes X W) (ha : PA X [a] ta) (hg : Gl X nm) (hdb : (nm == ("__debug__" : Str)) = false := by decide)
    (he : starEach (a :: []) X.env = (false, eval a X.env) :: starEach [] X.env := by rfl) (hpl : (backTo pos (starEach [] X.env)).any (·.1) = false := by rfl) :
    PS X (.Raise (some (.Call (.Name nm p) [a] [] pos)) none pos2) (tRz C "slot" ta W) := ps_raise hc tk (XS.pmk PySem.F.excBase_LookupError PySem.F.store_LookupError T hr ha hg hdb he hpl)
theorem ps_rzOE (T : XL.XT X.K X.mg nm mroOE "OverflowError.__new__" C fI) (hc : X.calm = true) (hr : Room k X.A) (tk : Takes X W) (ha : PA X [a] ta) (hg : Gl X nm) (hdb : (nm == ("__debug__" : Str)) = false := by decide)
    (he : starEach (a :: []) X.env = (false, eval a X.env) :: starEach [] X.env := by rfl) (hpl : (backTo pos (starEach [] X.env)).any (·.1) = false := by rfl) :
    PS X (.Raise (some (.Call (.Name nm p) [a] [] pos)) none pos2) (tRz C "limit" ta W) := ps_raise hc tk (XL.pmk PySem.F.excBase_OverflowError PySem.F.store_OverflowError T hr ha hg hdb he hpl)
end
section
variable {K : PySem.W.Frag} {cls : Value} {A B C : Addr} {x y b : Bool}
theorem exm2 (h1 : PySem.W.exmOne K cls (.ref A) = some x) (h2 : PySem.W.exmOne K cls (.ref B) = some y) : PySem.W.exmAny K cls [.ref A, .ref B] = some (x || y) := by
  unfold PySem.W.exmAny
  rw [h1]
  unfold PySem.W.exmAny
  rw [h2]
  unfold PySem.W.exmAny
  cases x <;> cases y <;> rfl
theorem kit_own (hd : PySem.W.hasDictIn K B = true) (ht : PySem.W.typeIn K (.ref B) = some (.type "type")) (hs : PySem.W.subIn K (.ref A) (.ref A) = some true) (h : PySem.W.subIn K (.ref A) (.ref B) = some b) : PySem.W.kitOne K (.ref A) (.ref B) = some b := by
  unfold PySem.W.kitOne
  by_cases e : A = B
  · subst e
    rw [hs] at h
    cases h
    rw [if_pos (by simp)]
  · rw [if_neg (by simpa using e)]
    obtain ⟨cd, hc, _⟩ := PySem.W.any_some hd
    show (if ((PySem.W.clsIn K B).isSome && PySem.W.typeIn K (.ref B) == some (.type "type")) = true then PySem.W.subIn K (.ref A) (.ref B) else none) = some b
    rw [hc, ht, if_pos (by rfl)]
    exact h
end
/-! equations -/
section
variable {f g : EvSX} {fs : EvS} {fc : EvT} {fa fk : EvA} {env e : En} {nm n fd : Str} {d : D} {r : R} {l w : List R} {M : FnX} {nms : List Str} {gR : List R → List R → List R} {i j : Nat} {ds : List D} {fe : EvE} {k : Str → Option Bool} {b : Bool} {fl : Fl}
def ofR : Option (Fl × En) → Option (FlX × En)
  | some (fl, e) => some (.fl fl, e)
  | none => none
theorem q_of : sOf fs env = ofR (fs env) := by
  unfold sOf; cases fs env with | none => rfl | some p => rfl
theorem q_of1 : ofR (some (fl, e)) = some (.fl fl, e) := rfl
def sxR (g : EvSX) : Option (FlX × En) → Option (FlX × En)
  | some (.fl .nx, e) => g e
  | r => r
theorem q_sxs : sxSeq f g env = sxR g (f env) := by
  unfold sxSeq
  cases f env with
  | none => rfl
  | some p =>
    obtain ⟨q, e⟩ := p
    match q with
    | .fl .nx => rfl
    | .fl .bk => rfl
    | .fl .ct => rfl
    | .fl (.rt r) => rfl
    | .rs a b c => rfl
theorem q_sxs1 : sxR g (some (.fl .nx, e)) = g e := rfl
theorem q_sxs2 {r : Ret} : sxR g (some (.fl (.rt r), e)) = some (.fl (.rt r), e) := rfl
theorem q_sxs3 : sxR g (some (.rs nm fd d, e)) = some (.rs nm fd d, e) := rfl
def sxiR (f g : EvSX) : Option (Bool × En) → Option (FlX × En)
  | some (true, e) => f e
  | some (false, e) => g e
  | none => none
theorem q_sxi : sxIf fc f g env = sxiR f g (fc env) := by
  unfold sxIf
  cases fc env with
  | none => rfl
  | some p => obtain ⟨b, e⟩ := p; cases b <;> rfl
theorem q_sxi1 : sxiR f g (some (true, e)) = f e := rfl
theorem q_sxi2 : sxiR f g (some (false, e)) = g e := rfl
def rzR2 (nm fd : Str) (e : En) : Option D → Option (FlX × En)
  | some d => some (.rs nm fd d, e)
  | none => none
def rzR (nm fd : Str) : Option (List R × En) → Option (FlX × En)
  | some ([r], e) => rzR2 nm fd e (rk e r)
  | _ => none
theorem q_rz : sxRz nm fd fa env = rzR nm fd (fa env) := by
  unfold sxRz
  cases fa env with
  | none => rfl
  | some p =>
    obtain ⟨l, e⟩ := p
    match l with
    | [] => rfl
    | [r] => show (rk e r).map _ = rzR2 nm fd e (rk e r); cases rk e r <;> rfl
    | _ :: _ :: _ => rfl
theorem q_rz1 : rzR nm fd (some ([r], e)) = rzR2 nm fd e (rk e r) := rfl
theorem q_rz2 : rzR2 nm fd e (some d) = some (.rs nm fd d, e) := rfl
def tryR5 (i : Nat) : Option (Fl × En) → Option (Fl × En)
  | some (.nx, e) => some (.nx, e.set i none)
  | some (.rt (.val d), e) => some (.rt (.val d), e.set i none)
  | _ => none
def tryR4 (nms : List Str) (j i : Nat) (fs : EvS) (e : En) : Option RX → Option (Fl × En)
  | some (.ret d) => some (.nx, e.set j (some (.shr d)))
  | some (.rs nm fd d) => if nms.contains nm = true then tryR5 i (fs (e.set i (some (.shr (excD nm fd d))))) else none
  | none => none
def tryR3 (M : FnX) (nms : List Str) (j i : Nat) (fs : EvS) (e : En) : Option (List D) → Option (Fl × En)
  | some ds => tryR4 nms j i fs e (M ds)
  | none => none
def tryR2 (M : FnX) (nms : List Str) (gR : List R → List R → List R) (j i : Nat) (fs : EvS) (l : List R) : Option (List R × En) → Option (Fl × En)
  | some (w, e) => tryR3 M nms j i fs e (rkA e (gR l w))
  | none => none
def tryR (M : FnX) (nms : List Str) (gR : List R → List R → List R) (fk : EvA) (j i : Nat) (fs : EvS) : Option (List R × En) → Option (Fl × En)
  | some (l, e) => tryR2 M nms gR j i fs l (fk e)
  | none => none
theorem q_try : sTry M nms gR fa fk j i fs env = tryR M nms gR fk j i fs (fa env) := by
  unfold sTry tryR
  cases fa env with
  | none => rfl
  | some p =>
    obtain ⟨l, e⟩ := p
    simp only [Option.bind_some]
    unfold tryR2
    cases fk e with
    | none => rfl
    | some q =>
      obtain ⟨w, e2⟩ := q
      simp only [Option.bind_some]
      unfold tryR3
      cases rkA e2 (gR l w) with
      | none => rfl
      | some ds =>
        simp only [Option.bind_some]
        unfold tryR4
        cases M ds with
        | none => rfl
        | some rx =>
          cases rx with
          | ret d => rfl
          | rs nm fd d =>
            simp only [Option.bind_some]
            split
            · unfold tryR5
              cases fs (e2.set i (some (.shr (excD nm fd d)))) with
              | none => rfl
              | some r =>
                obtain ⟨fl, e3⟩ := r
                match fl with
                | .nx => rfl
                | .bk => rfl
                | .ct => rfl
                | .rt (.val d) => rfl
                | .rt (.new m) => rfl
            · rfl
theorem q_try1 : tryR M nms gR fk j i fs (some (l, e)) = tryR2 M nms gR j i fs l (fk e) := rfl
theorem q_try2 : tryR2 M nms gR j i fs l (some (w, e)) = tryR3 M nms j i fs e (rkA e (gR l w)) := rfl
theorem q_try3 : tryR3 M nms j i fs e (some ds) = tryR4 nms j i fs e (M ds) := rfl
theorem q_try4 : tryR4 nms j i fs e (some (.ret d)) = some (.nx, e.set j (some (.shr d))) := rfl
theorem q_try5 (h : nms.contains nm = true) : tryR4 nms j i fs e (some (.rs nm fd d)) = tryR5 i (fs (e.set i (some (.shr (excD nm fd d))))) := if_pos h
theorem q_try6 : tryR5 i (some (.nx, e)) = some (.nx, e.set i none) := rfl
theorem q_try7 : tryR5 i (some (.rt (.val d), e)) = some (.rt (.val d), e.set i none) := rfl
def runXR : Option (FlX × En) → Option RX
  | some (.fl (.rt (.val d)), _) => some (.ret d)
  | some (.fl .nx, _) => some (.ret .none)
  | some (.rs nm f d, _) => some (.rs nm f d)
  | _ => none
theorem q_runX {m : Nat} {bx : EvSX} : runX m bx ds = runXR (bx (env0 m (ds.map Sl.shr))) := by
  unfold runX
  cases bx (env0 m (ds.map Sl.shr)) with
  | none => rfl
  | some p =>
    obtain ⟨q, e⟩ := p
    match q with
    | .fl .nx => rfl
    | .fl .bk => rfl
    | .fl .ct => rfl
    | .fl (.rt (.val d)) => rfl
    | .fl (.rt (.new m)) => rfl
    | .rs a b c => rfl
theorem q_runX1 : runXR (some (.fl (.rt (.val d)), e)) = some (.ret d) := rfl
theorem q_runX2 : runXR (some (.fl .nx, e)) = some (.ret .none) := rfl
theorem q_runX3 : runXR (some (.rs nm fd d, e)) = some (.rs nm fd d) := rfl
def isXR2 (e : En) : Option Bool → Option (R × En)
  | some b => some (.val (.bool b), e)
  | none => none
def isXR (k : Str → Option Bool) : Option (D × En) → Option (R × En)
  | some (d, e) => isXR2 e ((excNm d).bind k)
  | none => none
theorem q_isX : eIsX k fe env = isXR k (e1 fe env) := by
  unfold eIsX isXR
  cases e1 fe env with
  | none => rfl
  | some p =>
    simp only [Option.bind_some]
    cases (excNm p.1).bind k <;> rfl
theorem q_isX1 : isXR k (some (d, e)) = isXR2 e ((excNm d).bind k) := rfl
theorem q_isX2 : isXR2 e (some b) = some (.val (.bool b), e) := rfl
theorem c_excNm : excNm (excD nm fd d) = some nm := rfl
def xFR2 (e : En) : Option D → Option (R × En)
  | some d => some (.val d, e)
  | none => none
def xFR (nms : List Str) (n : Str) : Option (D × En) → Option (R × En)
  | some (d, e) => xFR2 e (excFd nms n d)
  | none => none
theorem q_xF : eXF nms n fe env = xFR nms n (e1 fe env) := by
  unfold eXF xFR
  cases e1 fe env with
  | none => rfl
  | some p =>
    simp only [Option.bind_some]
    cases excFd nms n p.1 <;> rfl
theorem q_xF1 : xFR nms n (some (d, e)) = xFR2 e (excFd nms n d) := rfl
theorem q_xF2 : xFR2 e (some d) = some (.val d, e) := rfl
theorem c_excFd (h : nms.contains nm = true) : excFd nms n (excD nm n d) = some d := by
  show (if (nms.contains nm && n == n) = true then some d else none) = some d
  rw [h]
  simp
theorem c_isNX : isN (excD nm fd d) = false := rfl
end
end GD
namespace GD
open PySem PySem.Spec PySem.W PyProof.Rows
section
variable {K : Frag} {nm q : Str} {C N : Addr} {bs bm : List Value} {sn : List Str} {sub : List Value} {ab : Bool} {col : Option Bool} {dd : Option Addr} {k0 k1 k2 k3 k5 : Option Value} {newId : String}
theorem tail_LE : excTail mroLE mroLE = true := by decide +kernel
theorem tail_OE : excTail mroOE mroOE = true := by decide +kernel
theorem ini_of (ht : excTail bm bm = true) (h : K.lookup C = some (excClassObj nm q C N bs bm true sn sub ab col dd k0 k1 k2 k3 k5 newId)) : excInitIn K C bm newId = true := by
  unfold excInitIn
  rw [h]
  show (C == C && newId == newId && !false && excTail bm bm) = true
  rw [ht]
  simp
theorem ov_of (ht : excTail bm bm = true) (h : K.lookup C = some (excClassObj nm q C N bs bm true sn sub ab col dd k0 k1 k2 k3 k5 newId)) : excOver K C bm = true := by
  have hc : clsIn K C = some { name := nm, bases := bs, mro := .ref C :: bm, ns := N, qualname := q, hasDict := true, slotNames := sn, subclasses := sub, abstract := ab, collection := col, hasDel := false } := by
    unfold clsIn
    rw [h] <;> rfl
  unfold excOver
  rw [hc]
  show (C == C && excTail bm bm) = true
  rw [ht]
  simp
end
end GD

set_option maxHeartbeats 2000000
/-! defs that give a new list within a new tuple -/
namespace GD
open PySem PySem.Spec PyProof.Rows L2 GDX
/-- what is returned: data, or a new tuple that holds a new list (P: the tuple's items, the list among them) -/
def RetN (K : PySem.W.Frag) (P : List V → V → Prop) (F : Frm) (H' : Hp) (v : V) (env' : En) (σ' : L2.St) : Ret → Prop
  | .val d => RetOk K F H' v env' σ' (.val d)
  | .new m => ∃ (t : Addr) (xs : List V) (x : V), v = .ref t ∧ H' t = some (.tup xs) ∧ P xs x ∧ RetOk K F H' x env' σ' (.new m)
def NEnd (K : PySem.W.Frag) (P : List V → V → Prop) (F : Frm) (env : En) (σ : L2.St) (H : Hp) (env' : En) (Dn : Ends) : Fl → Prop
  | .rt r => ∀ v σ' H', RetN K P F H' v env' σ' r → Dn.rt v H'
  | fl => SEnd K F env σ H env' Dn fl
def ISN (K : PySem.W.Frag) (P : List V → V → Prop) (t : TS) (f : EvS) : Prop := ∀ F env σ H fl env', StOk K F T0 H env σ → f env = some (fl, env') → ∀ Dn : Ends, NEnd K P F env σ H env' Dn fl → t Dn σ H
section
variable {K : PySem.W.Frag} {P : List V → V → Prop} {t u : TS} {f g : EvS}
theorem NEnd.pre {F : Frm} {env env1 env' : En} {σ σ1 : L2.St} {H H1 : Hp} {Dn : Ends} {fl : Fl} (h : NEnd K P F env σ H env' Dn fl) (b : Stq env σ H env1 σ1 H1) : NEnd K P F env1 σ1 H1 env' Dn fl := by
  cases fl with
  | rt r => exact h
  | nx => exact SEnd.pre (fl := .nx) h b
  | bk => exact SEnd.pre (fl := .bk) h b
  | ct => exact SEnd.pre (fl := .ct) h b
/-- what returns data alone -/
def plainS (f : EvS) : EvS := fun env => (f env).bind fun p => match p.1 with
  | .rt (.new _) => none
  | _ => some p
theorem isn_of (h : IS K t f) : ISN K P t (plainS f) := by
  intro F env σ H fl env' S e Dn k
  simp only [plainS, Option.bind_eq_some_iff] at e
  obtain ⟨⟨fl0, e1⟩, a1, a2⟩ := e
  match fl0, a2 with
  | .nx, a2 => cases a2; exact h F env σ H _ _ S a1 Dn k
  | .bk, a2 => cases a2; exact h F env σ H _ _ S a1 Dn k
  | .ct, a2 => cases a2; exact h F env σ H _ _ S a1 Dn k
  | .rt (.val d), a2 => cases a2; exact h F env σ H _ _ S a1 Dn k
  | .rt (.new m), a2 => cases a2
theorem isn_seq (h1 : ISN K P t f) (h2 : ISN K P u g) : ISN K P (tSeq t u) (sSeq f g) := by
  intro F env σ H fl env' S e Dn k
  simp only [sSeq, Option.bind_eq_some_iff] at e
  obtain ⟨⟨fl0, e1⟩, a1, a2⟩ := e
  match fl0, a2 with
  | .nx, a2 => exact h1 F env σ H .nx e1 S a1 _ fun σ' H' S' q => h2 F e1 σ' H' fl env' S' a2 Dn (k.pre q)
  | .bk, a2 => cases a2; exact h1 F env σ H .bk e1 S a1 _ k
  | .ct, a2 => cases a2; exact h1 F env σ H .ct e1 S a1 _ k
  | .rt r, a2 => cases a2; exact h1 F env σ H (.rt r) e1 S a1 _ k
theorem isn_for {wi : TI} {fw : EvW} {js : List Nat} {gg : TG} {ff : D → En → Option En} (hw : IW K wi fw) (hg : IG K js gg ff) (hb : ISN K P t f) : ISN K P (tFor wi gg t) (sFor fw ff f) := by
  intro F env σ H fl env' S e Dn k
  simp only [sFor, Option.bind_eq_some_iff] at e
  obtain ⟨⟨items, e1⟩, a1, a2⟩ := e
  refine hw F T0 env σ H items e1 S a1 _ fun J H1 S1 s1 jo => ?_
  have k1 := k.pre s1.q
  clear k s1 a1 S
  refine ⟨fun i m σ' H' => ∃ e', StOk K F T0 H' e' σ' ∧ Stq e1 σ H1 e' σ' H' ∧ m = items.length - i ∧ i ≤ items.length ∧ forE ff f (items.drop i) e' = some (fl, env'), ⟨_, e1, S1, Stq.refl, rfl, Nat.zero_le _, by simpa using a2⟩, ?_⟩
  rintro i m σ' H' ⟨e', S', st, rfl, hi, he⟩
  obtain ⟨j1, j2⟩ := jo (Ow F T0 e' σ') H' (fun a o q n z => by
      rcases z with z | z | z
      · exact n (.inl z)
      · exact z
      · rcases st.wr a z with z | z
        · exact n (.inr (.inr z))
        · rw [q] at z; cases z) (fun a o n q => st.ext.same a o q fun z => n (.inr (.inr z))) (fun a h => S'.olive h)
  by_cases hlt : i < items.length
  · have gi : items[i]? = some items[i] := List.getElem?_eq_getElem hlt
    obtain ⟨go, yl⟩ := j1 i _ gi
    rw [List.drop_eq_getElem_cons hlt] at he
    simp only [forE, Option.bind_eq_some_iff] at he
    obtain ⟨e2, b1, ⟨fl2, e3⟩, b2, b3⟩ := he
    refine .inr ⟨go, fun σ2 H2 => ∃ e', StOk K F T0 H2 e' σ2 ∧ Stq e1 σ H1 e' σ2 H2 ∧ i + 1 ≤ items.length ∧ forE ff f (items.drop (i + 1)) e' = some (fl, env'), ?_, ?_⟩
    · rintro σ2 H2 ⟨e', c1, c2, c3, c4⟩
      exact ⟨items.length - (i + 1), by omega, e', c1, c2, rfl, c3, c4⟩
    · intro x H2 hy
      obtain ⟨x2, rx⟩ := yl x H2 hy
      have S2 := S'.lay x2
      refine hg F T0 e' σ' H2 x _ e2 S2 rx b1 _ fun σ2 S3 q3 _ _ _ => ?_
      have q4 : Stq e1 σ H1 e2 σ2 H2 := (st.trans (Stp.lay x2).q).trans q3
      refine hb F e2 σ2 H2 fl2 e3 S3 b2 _ ?_
      cases fl2 with
      | nx => exact fun σ3 H3 S4 q5 => ⟨e3, S4, q4.trans q5, hlt, b3⟩
      | ct => exact fun σ3 H3 S4 q5 => ⟨e3, S4, q4.trans q5, hlt, b3⟩
      | bk => cases b3; exact fun σ3 H3 S4 q5 => k1 σ3 H3 S4 (q4.trans q5)
      | rt r => cases b3; exact k1
  · have ei : i = items.length := by omega
    subst ei
    rw [List.drop_length] at he
    cases he
    exact .inl ⟨j2 _ (Nat.le_refl _), k1 σ' H' S' st⟩
/-- return (xs, e): xs one's own list -/
def sRetP (i : Nat) (fe : EvE) : EvS := fun env => match slOf env i with
  | some (.own false _) => (fe env).bind fun p => match slOf p.2 i with
    | some (.own false m) => some (.rt (.new m), p.2)
    | _ => none
  | _ => none
theorem isn_retP {i : Nat} {te : TE} {fe : EvE} (hP : ∀ x y, P [x, y] x) (h : IE K te fe) : ISN K P (tRet (tTup (tCons (tVar i) (tCons te tNil)))) (sRetP i fe) := by
  intro F env σ H fl env' S e Dn k
  unfold sRetP at e
  cases g : slOf env i with
  | none => rw [g] at e; cases e
  | some s0 =>
    rw [g] at e
    match s0, e with
    | .own false m0, e =>
      simp only [Option.bind_eq_some_iff] at e
      obtain ⟨⟨r, e1⟩, a1, a2⟩ := e
      cases g1 : slOf e1 i with
      | none => simp only [g1] at a2; cases a2
      | some s1 =>
        rw [show slOf (r, e1).2 i = some s1 from g1] at a2
        match s1, a2 with
        | .own false m, a2 =>
          cases a2
          obtain ⟨a, q1, _, _⟩ := S.own i false m0 (slOf_eq.mp g)
          refine ⟨.ref a, q1, h F T0 env σ H r _ S a1 _ fun y H1 S1 s1 rv => ?_⟩
          obtain ⟨b, p1, p2, p3⟩ := S1.own i false m (slOf_eq.mp g1)
          rw [q1] at p1
          cases p1
          refine ⟨by show 2 ≤ sizeLine; rw [sizeLine_eq]; decide, fun tp nt => ?_⟩
          have x1 : Ext (fun _ => False) H1 (upd H1 tp (.tup [.ref a, y])) := Ext.new nt
          refine k _ σ _ ⟨tp, [.ref a, y], .ref a, rfl, upd_same, hP _ _, a, T0, rfl, by simpa using p3, S1.lay x1, .inr (.inr ⟨i, false, m, slOf_eq.mp g1, q1⟩), p2.tr (fun _ _ _ n => n) (fun b o n q => x1.same b o q id) fun o q => x1.same a o q id⟩
/-- the call in a try, whose suite may return such a tuple -/
def sTryN (M : FnX) (nms : List Str) (gR : List R → List R → List R) (fa fk : EvA) (j i : Nat) (fs : EvS) : EvS := fun env => (fa env).bind fun p => (fk p.2).bind fun q => (rkA q.2 (gR p.1 q.1)).bind fun ds => (M ds).bind fun rx => match rx with
  | .ret d => some (.nx, q.2.set j (some (.shr d)))
  | .rs nm f d => if nms.contains nm = true then (fs (q.2.set i (some (.shr (excD nm f d))))).bind fun r => match r.1 with
    | .rt x => some (.rt x, r.2)
    | _ => none
    else none
theorem isn_try {c1 c2 : Value} {i j k : Nat} {M : FnX} {nms : List Str} {gV : List V → List V → List V} {gR : List R → List R → List R} {ta tk : TA} {fa fk : EvA} {ts : TS} {fs : EvS} (ha : IA K ta fa) (hk : IA K tk fk)
    (hp : ∀ {F : Frm} {T : Addr → Prop} {H : Hp} {env : En} {σ : L2.St} {vs us : List V} {l w : List R}, RvAll K F T H env σ vs l → RvAll K F T H env σ us w → RvAll K F T H env σ (gV vs us) (gR l w))
    (hlen : ∀ env l e1 w e2, fa env = some (l, e1) → fk e1 = some (w, e2) → (gR l w).length = k) (hs : ISN K P ts fs)
    (hc : ∀ nm C, nms.contains nm = true → PySem.W.nsIn K mainGlobals nm = some (some (.ref C)) → PySem.W.exmAny K (.ref C) [c1, c2] = some true) :
    ISN K P (tTry K c1 c2 i j k M gV ta tk ts) (sTryN M nms gR fa fk j i fs) := by
  intro F env σ H fl env' S e Dn hD
  simp only [sTryN, Option.bind_eq_some_iff] at e
  obtain ⟨⟨l, e1⟩, a1, ⟨w, e2⟩, a2, ds, a3, rx, a4, a5⟩ := e
  refine ha F T0 env σ H l e1 S a1 _ fun vs H1 S1 s1 rv => ?_
  refine hk F T0 e1 σ H1 w e2 S1 a2 _ fun us H2 S2 s2 rw2 => ?_
  have rr := hp (rv.stp s2) rw2
  have rp := rkA_ok S2 rr a3
  have st := s1.trans s2
  have len : (gV vs us).length = k := by
    have h1 := hlen _ _ _ _ _ a1 a2
    have h2 := rp.length
    have h3 : ∀ {e : En} {l : List R} {ds : List D}, rkA e l = some ds → ds.length = l.length := by
      intro e l
      induction l with
      | nil => intro ds h; cases h; rfl
      | cons r l ih =>
        intro ds h
        simp only [rkA, Option.bind_eq_some_iff, Option.map_eq_some_iff] at h
        obtain ⟨d, _, ds', h', rfl⟩ := h
        exact congrArg (· + 1) (ih h')
    rw [h2, h3 a3, h1]
  refine ⟨Ow F T0 e2 σ, ds, rx, len, fun a h => S2.olive h, rp, a4, fun d hr v H3 x rd => ?_, fun nm f d hr C v H3 dx hC x nd rd => ?_⟩
  · subst hr
    cases a5
    have S3 := S2.lay x
    exact hD _ H3 (S3.setS rd) ((st.trans (Stp.lay x)).q.trans S3.setS_q)
  · subst hr
    dsimp only at a5
    split at a5
    case isFalse => cases a5
    case isTrue hn =>
    simp only [Option.bind_eq_some_iff] at a5
    obtain ⟨⟨fl1, e3⟩, a6, a7⟩ := a5
    refine ⟨hc nm C hn hC, fun a na => ?_⟩
    have y1 : Ext (fun _ => False) H3 (upd H3 dx (.xd [(f, v)])) := Ext.new nd
    have y2 : Ext (fun _ => False) (upd H3 dx (.xd [(f, v)])) (upd (upd H3 dx (.xd [(f, v)])) a (XO (.ref C) (some dx) a)) := Ext.new na
    have S3 := S2.lay x
    have S4 := S3.lay y1
    have S5 := S4.lay y2
    have kp := fun b o (q : H3 b = some o) => y2.same b o (y1.same b o q id) id
    have hdx : (upd (upd H3 dx (.xd [(f, v)])) a (XO (.ref C) (some dx) a)) dx = some (.xd [(f, v)]) := y2.same dx _ upd_same id
    have na' : ¬ Ow F T0 e2 σ a := fun q => S4.olive q na
    have nd' : ¬ Ow F T0 e2 σ dx := fun q => S3.olive q nd
    have hexc : Rp K (Ow F T0 e2 σ) (upd (upd H3 dx (.xd [(f, v)])) a (XO (.ref C) (some dx) a)) (.ref a) (excD nm f d) := .exc hC upd_same na' hdx nd' (rd.tr (fun _ _ _ n => n) fun b o _ q => kp b o q)
    match fl1, a7 with
    | .rt r, a7 =>
      cases a7
      exact hs F _ _ _ (.rt r) _ (S5.setS hexc) a6 _ hD
    | .nx, a7 => cases a7
    | .bk, a7 => cases a7
    | .ct, a7 => cases a7
end
/-! ### such defs, their calls -/
abbrev FnN := List D → Option Mu
def runN (n : Nat) (b : EvS) : FnN := fun ds => (b (env0 n (ds.map Sl.shr))).bind fun p => match p.1 with
  | .rt (.new m) => some m
  | _ => none
def spN (K : PySem.W.Frag) (P : List V → V → Prop) (k : Nat) (M : FnN) : Sp := fun vs H Q _ => ∃ (O : Addr → Prop) (ds : List D) (m : Mu), vs.length = k ∧ (∀ a, O a → H a ≠ none) ∧ RpAll K O H vs ds ∧ M ds = some m ∧
  ∀ v H', Ext (fun _ => False) H H' → (∃ (t : Addr) (xs : List V) (p : Addr), v = .ref t ∧ H' t = some (.tup xs) ∧ P xs (.ref p) ∧ H p = none ∧ MuAt K (fun a => O a ∨ a = p) H' p m) → Q v H'
theorem body_okN {K : PySem.W.Frag} {P : List V → V → Prop} {t : TS} {b : EvS} {N : List Str} {vs : List V} {H : Hp} {Q : VK} {E : XK} {k : Nat} (hb : ISN K P t b) (h : spN K P k (runN N.length b) vs H Q E) :
    t { nx := fun _ H' => Q .non H', rt := Q } (L2.start N vs) H := by
  obtain ⟨O, ds, m, hl, hO, r, hm, q⟩ := h
  simp only [runN, Option.bind_eq_some_iff] at hm
  obtain ⟨⟨fl, env'⟩, h1, h2⟩ := hm
  refine hb ⟨O, fun _ => False, H, vs⟩ _ _ H fl env' (start_ok hO r) h1 _ ?_
  match fl, h2 with
  | .rt (.new m'), h2 =>
    cases h2
    rintro v σ' H' ⟨t', xs, x, rfl, ht, hP, p, T', rfl, np, S', op, mu⟩
    refine q _ _ S'.ext ⟨t', xs, p, rfl, ht, hP, np, mu.tr (fun a _ _ n z => n ?_) (fun _ _ _ e => e) fun _ e => e⟩
    rcases z with z | z
    · exact .inl z
    · subst z; exact op
  | .rt (.val d), h2 => cases h2
  | .nx, h2 => cases h2
  | .bk, h2 => cases h2
  | .ct, h2 => cases h2
theorem fnN {P0 : Program} {w : World} {K : PySem.W.Frag} {P : List V → V → Prop} {mg : Str → Option Value} {base : Heap} {x qual : Str} {st : Stmt} {f : Addr} {fd : FuncData} {N ps : List Str} {k : Nat} {b : EvS} (F : Fun K x qual st f fd) (S : FnScope N ps (defScope st))
    (hbody : ∀ (cdv : Value) (A : Around) (outer : List Env) (s : Shared) (H : Hp) (E : XK), A.guards = some [] → Room k (A.deeper (envOfC qual (defScope st) s.heap.objs.size f cdv)) →
      ∃ t, PSs (cxOf CX0 P0 w K mg base N qual (defScope st) f cdv A outer s H E).nox (defBody st) t ∧ ISN K P t b) : FnG P0 w K mg base CX0 (k + 1) f fd ps (spN K P ps.length (runN N.length b)) := by
  refine okG F S (fun vs H Q E h => ?_) fun cdv A outer s H vs Q E hg hr h => ?_
  · obtain ⟨O, ds, m, hl, _⟩ := h
    exact hl
  · obtain ⟨t, h1, h2⟩ := hbody cdv A outer s H E hg hr
    exact ⟨t, h1, body_okN h2 h⟩
/-- f(..)[0], f giving a new pair whose first item is a new list -/
def P0 (xs : List V) (x : V) : Prop := ∃ y, xs = [x, y]
def xFst (M : FnN) (fa : EvA) : EvX := fun env => (fa env).bind fun p => (rkA p.2 p.1).bind fun ds => (M ds).map fun m => (.inr m, p.2)
section
variable {K : PySem.W.Frag}
theorem ix_fst {M : FnN} {k : Nat} {E : XK} {t : TA} {fa : EvA} (ha : IA K t fa) (hl : lenOk k fa) : IX K (tOp (rIx K) (tCall (spN K P0 k M) [] E t) (tC (.int 0))) (xFst M fa) := by
  intro F T env σ H r env' S e Q q
  simp only [xFst, Option.bind_eq_some_iff, Option.map_eq_some_iff] at e
  obtain ⟨⟨l, e1⟩, a1, ds, a2, m, a3, a4⟩ := e
  cases a4
  refine ha F T env σ H l _ S a1 _ fun vs H1 S1 s1 rv => ?_
  have rp := rkA_ok S1 rv a2
  have len : vs.length = k := by
    have h2 := rp.length
    have h3 : ∀ {e : En} {l : List R} {ds : List D}, rkA e l = some ds → ds.length = l.length := by
      intro e l
      induction l with
      | nil => intro ds h; cases h; rfl
      | cons r l ih =>
        intro ds h
        simp only [rkA, Option.bind_eq_some_iff, Option.map_eq_some_iff] at h
        obtain ⟨d, _, ds', h', rfl⟩ := h
        exact congrArg (· + 1) (ih h')
    rw [h2, h3 a2, hl _ _ _ a1]
  simp only [List.append_nil]
  refine ⟨Ow F T _ σ, ds, m, len, fun a h => S1.olive h, rp, a3, fun v H2 x ⟨t', xs, p, hv, ht, ⟨y, hxs⟩, np, mu⟩ => ?_⟩
  subst hv hxs
  refine .inr (.inl ⟨t', _, 0, .ref p, rfl, rfl, .inl (.inl ht), rfl, ?_⟩)
  have hp : H2 p ≠ none := by
    cases m with
    | l ds => obtain ⟨xs, h, _⟩ := mu; rw [h]; simp
    | m kvs => obtain ⟨xs, h, _⟩ := mu; rw [h]; simp
  refine q p H2 ?_ (S1.lay1 np x hp) (s1.trans (Stp.lay x)) (mu.tr (fun a _ _ n z => n ?_) (fun _ _ _ e => e) fun _ e => e)
  · cases h : H p with
    | none => rfl
    | some o => exact absurd np (s1.ext.live p (by rw [h]; simp))
  · rcases z with z | (z | z) | z
    · exact .inl (.inl z)
    · exact .inl (.inr (.inl z))
    · exact .inr z
    · exact .inl (.inr (.inr z))
end
end GD

/-! equations for GD53 -/
namespace GD
open PySem PySem.Spec PyProof.Rows L2 GDX
section
variable {f fs : EvS} {fa fk : EvA} {fe : EvE} {env e : En} {nm n fd : Str} {d : D} {r : R} {l w : List R} {M : FnX} {N : FnN} {nms : List Str} {gR : List R → List R → List R} {i j : Nat} {ds : List D} {m m' : Mu} {fl : Fl}
def plR : Option (Fl × En) → Option (Fl × En)
  | some (.rt (.new _), _) => none
  | x => x
theorem q_pl : plainS f env = plR (f env) := by
  unfold plainS plR
  cases f env with
  | none => rfl
  | some p =>
    obtain ⟨fl, e⟩ := p
    match fl with
    | .nx => rfl
    | .bk => rfl
    | .ct => rfl
    | .rt (.val d) => rfl
    | .rt (.new m) => rfl
theorem q_pl1 : plR (some (.nx, e)) = some (.nx, e) := rfl
theorem q_pl2 : plR (some (.rt (.val d), e)) = some (.rt (.val d), e) := rfl
def rpR3 (e : En) : Option Sl → Option (Fl × En)
  | some (.own false m) => some (.rt (.new m), e)
  | _ => none
def rpR2 (i : Nat) : Option (R × En) → Option (Fl × En)
  | some (_, e) => rpR3 e (slOf e i)
  | none => none
def rpR (i : Nat) (fe : EvE) (env : En) : Option Sl → Option (Fl × En)
  | some (.own false _) => rpR2 i (fe env)
  | _ => none
theorem q_rp : sRetP i fe env = rpR i fe env (slOf env i) := by
  unfold sRetP rpR
  cases slOf env i with
  | none => rfl
  | some s =>
    match s with
    | .shr d => rfl
    | .own true m => rfl
    | .own false m =>
      show (fe env).bind _ = rpR2 i (fe env)
      cases fe env with
      | none => rfl
      | some p =>
        obtain ⟨r, e⟩ := p
        show _ = rpR3 e (slOf e i)
        simp only [Option.bind_some]
        cases slOf e i with
        | none => rfl
        | some s =>
          match s with
          | .shr d => rfl
          | .own true m => rfl
          | .own false m => rfl
theorem q_rp1 : rpR i fe env (some (.own false m)) = rpR2 i (fe env) := rfl
theorem q_rp2 : rpR2 i (some (r, e)) = rpR3 e (slOf e i) := rfl
theorem q_rp3 : rpR3 e (some (.own false m)) = some (.rt (.new m), e) := rfl
def trnR5 : Option (Fl × En) → Option (Fl × En)
  | some (.rt x, e) => some (.rt x, e)
  | _ => none
def trnR4 (nms : List Str) (j i : Nat) (fs : EvS) (e : En) : Option RX → Option (Fl × En)
  | some (.ret d) => some (.nx, e.set j (some (.shr d)))
  | some (.rs nm fd d) => if nms.contains nm = true then trnR5 (fs (e.set i (some (.shr (excD nm fd d))))) else none
  | none => none
def trnR3 (M : FnX) (nms : List Str) (j i : Nat) (fs : EvS) (e : En) : Option (List D) → Option (Fl × En)
  | some ds => trnR4 nms j i fs e (M ds)
  | none => none
def trnR2 (M : FnX) (nms : List Str) (gR : List R → List R → List R) (j i : Nat) (fs : EvS) (l : List R) : Option (List R × En) → Option (Fl × En)
  | some (w, e) => trnR3 M nms j i fs e (rkA e (gR l w))
  | none => none
def trnR (M : FnX) (nms : List Str) (gR : List R → List R → List R) (fk : EvA) (j i : Nat) (fs : EvS) : Option (List R × En) → Option (Fl × En)
  | some (l, e) => trnR2 M nms gR j i fs l (fk e)
  | none => none
theorem q_trn : sTryN M nms gR fa fk j i fs env = trnR M nms gR fk j i fs (fa env) := by
  unfold sTryN trnR
  cases fa env with
  | none => rfl
  | some p =>
    obtain ⟨l, e⟩ := p
    simp only [Option.bind_some]
    unfold trnR2
    cases fk e with
    | none => rfl
    | some q =>
      obtain ⟨w, e2⟩ := q
      simp only [Option.bind_some]
      unfold trnR3
      cases rkA e2 (gR l w) with
      | none => rfl
      | some ds =>
        simp only [Option.bind_some]
        unfold trnR4
        cases M ds with
        | none => rfl
        | some rx =>
          cases rx with
          | ret d => rfl
          | rs nm fd d =>
            simp only [Option.bind_some]
            split
            · unfold trnR5
              cases fs (e2.set i (some (.shr (excD nm fd d)))) with
              | none => rfl
              | some r =>
                obtain ⟨fl, e3⟩ := r
                cases fl <;> rfl
            · rfl
theorem q_trn1 : trnR M nms gR fk j i fs (some (l, e)) = trnR2 M nms gR j i fs l (fk e) := rfl
theorem q_trn2 : trnR2 M nms gR j i fs l (some (w, e)) = trnR3 M nms j i fs e (rkA e (gR l w)) := rfl
theorem q_trn3 : trnR3 M nms j i fs e (some ds) = trnR4 nms j i fs e (M ds) := rfl
theorem q_trn4 : trnR4 nms j i fs e (some (.ret d)) = some (.nx, e.set j (some (.shr d))) := rfl
theorem q_trn5 (h : nms.contains nm = true) : trnR4 nms j i fs e (some (.rs nm fd d)) = trnR5 (fs (e.set i (some (.shr (excD nm fd d))))) := if_pos h
theorem q_trn6 {x : Ret} : trnR5 (some (.rt x, e)) = some (.rt x, e) := rfl
def fstR3 (e : En) : Option Mu → Option (Sum R Mu × En)
  | some m => some (.inr m, e)
  | none => none
def fstR2 (N : FnN) (e : En) : Option (List D) → Option (Sum R Mu × En)
  | some ds => fstR3 e (N ds)
  | none => none
def fstR (N : FnN) : Option (List R × En) → Option (Sum R Mu × En)
  | some (l, e) => fstR2 N e (rkA e l)
  | none => none
theorem q_fst : xFst N fa env = fstR N (fa env) := by
  unfold xFst fstR
  cases fa env with
  | none => rfl
  | some p =>
    obtain ⟨l, e⟩ := p
    simp only [Option.bind_some]
    unfold fstR2
    cases rkA e l with
    | none => rfl
    | some ds =>
      simp only [Option.bind_some]
      cases N ds <;> rfl
theorem q_fst1 : fstR N (some (l, e)) = fstR2 N e (rkA e l) := rfl
theorem q_fst2 : fstR2 N e (some ds) = fstR3 e (N ds) := rfl
theorem q_fst3 : fstR3 e (some m) = some (.inr m, e) := rfl
def runNR : Option (Fl × En) → Option Mu
  | some (.rt (.new m), _) => some m
  | _ => none
theorem q_runN {k : Nat} : runN k f ds = runNR (f (env0 k (ds.map Sl.shr))) := by
  unfold runN
  cases f (env0 k (ds.map Sl.shr)) with
  | none => rfl
  | some p =>
    obtain ⟨fl, e⟩ := p
    match fl with
    | .nx => rfl
    | .bk => rfl
    | .ct => rfl
    | .rt (.val d) => rfl
    | .rt (.new m) => rfl
theorem q_runN1 : runNR (some (.rt (.new m), e)) = some m := rfl
end
end GD

set_option maxHeartbeats 4000000
/-! a tuple times 0 or 1 -/
namespace GD
open PySem PySem.Spec PyProof.Rows L2
theorem tuple_mul1 (l : Addr) (items : Array Value) (n : Nat) (dd : Option Addr) (sl : Array (Option Value)) (u : Tok) :
    Meets (Builtin.«tuple.__mul__» ⟨[.ref l, .int 1 u], []⟩) (fun _ R s => s.heap.get? l = some { cls := .type "tuple", dict := dd, data := .seq items n, slots := sl } ∧ R (.ok (.ret (Value.ref l))) s) :=
  .of_wp fun prog w A R s h => by
    obtain ⟨hp, g, d, tk, os⟩ := s
    obtain ⟨hl, h⟩ := h
    have f1 := AutoSeq1.idx_int
    wp_walk using wpAny_loadPart' hl
    repeat (first
      | (refine wpAny_ite_false (by decide) ?_; wp_walk using wpAny_loadPart' hl)
      | (refine wpAny_ite_true (by simp) ?_; wp_walk using wpAny_loadPart' hl))
    exact ⟨_, rfl, h⟩
theorem tuple_mulN (l : Addr) (items : Array Value) (n : Nat) (dd : Option Addr) (sl : Array (Option Value)) (u : Tok) (c1 : (items.isEmpty || (0 : Int) == 1) = false) :
    Meets (Builtin.«tuple.__mul__» ⟨[.ref l, .int 0 u], []⟩) (fun _ R s => s.heap.get? l = some { cls := .type "tuple", dict := dd, data := .seq items n, slots := sl } ∧
      R (.ok (.ret (Value.ref s.heap.objs.size))) { s with heap := s.heap.push { cls := Value.type "tuple", data := Data.seq #[] }, toks := s.toks }) :=
  .of_wp fun prog w A R s h => by
    obtain ⟨hp, g, d, tk, os⟩ := s
    obtain ⟨hl, h⟩ := h
    have f1 := AutoSeq1.idx_int
    wp_walk using wpAny_loadPart' hl
    repeat (first
      | (refine wpAny_ite_false (by decide) ?_; wp_walk using wpAny_loadPart' hl)
      | (refine wpAny_ite_false (decide_eq_false (by rw [c1]; exact Bool.false_ne_true)) ?_; wp_walk using wpAny_loadPart' hl)
      | (refine wpAny_ite_true (by simp) ?_; wp_walk using wpAny_loadPart' hl))
    exact ⟨_, rfl, h⟩
def rRepT1 (K : PySem.W.Frag) : R2 := fun x y H Q => ∃ l xs, x = .ref l ∧ y = .int 1 ∧ SqT K H l xs ∧ Q (.ref l) H
theorem op_repT1 {X : Cx} : OpR X (binaryOp .Mult) (rRepT1 X.K) := by
  intro pins s σ H x y v u Q I rx ry h
  obtain ⟨l, xs, rfl, rfl, hT, q⟩ := h
  cases rx
  obtain ⟨t, rfl⟩ := ry
  obtain ⟨its, r, ⟨⟨cls, dd, data, sl⟩, ho, hc, n, hd⟩, hs⟩ := I.tuple hT
  simp only at hc hd
  subst hc hd
  exact wpAny_binaryOp_repeat_ref (T := "tuple") (U := "int") (by decide) ⟨_, ho, rfl⟩ (fun s' => typeIs_int s' 1 t) noFill_tuple_mul F.fills_int_mul F.slot_int_rmul repeat_tuple F.slot_int_index.lookup
    (call_meets F.slot_int_rmul (typeIs_int s 1 t) F.entry_int_rmul (F.args_int_rmul_2 _ _) (int_rmul_tuple 1 t l its.toArray n dd sl)
      ⟨ho, rfl, ⟨_, ho, rfl⟩, call_meets F.slot_tuple_mul ⟨_, ho, rfl⟩ F.entry_tuple_mul (F.args_tuple_mul_2 _ _) (tuple_mul1 l its.toArray n dd sl t) ⟨ho, ⟨.ref l, H, I, rfl, q⟩⟩⟩)
def rRepTz (K : PySem.W.Frag) : R2 := fun x y H Q => ∃ l xs, x = .ref l ∧ y = .int 0 ∧ SqT K H l xs ∧ Q (.ref l) H ∧ xs = [] ∨ ∃ l xs, x = .ref l ∧ y = .int 0 ∧ SqT K H l xs ∧ xs ≠ [] ∧ ∀ p, H p = none → Q (.ref p) (upd H p (.tup []))
theorem op_repTz {X : Cx} : OpR X (binaryOp .Mult) (fun x y H Q => ∃ l xs, x = .ref l ∧ y = .int 0 ∧ SqT X.K H l xs ∧ xs ≠ [] ∧ ∀ p, H p = none → Q (.ref p) (upd H p (.tup []))) := by
  intro pins s σ H x y v u Q I rx ry h
  obtain ⟨l, xs, rfl, rfl, hT, hne, q⟩ := h
  cases rx
  obtain ⟨t, rfl⟩ := ry
  obtain ⟨its, r, ⟨⟨cls, dd, data, sl⟩, ho, hc, n, hd⟩, hs⟩ := I.tuple hT
  simp only at hc hd
  subst hc hd
  have hle : its.length = xs.length := r.length.symm
  have hn : its ≠ [] := fun e => hne (by
    rw [e] at hle
    exact List.eq_nil_of_length_eq_zero hle.symm)
  have hi : its.toArray.isEmpty = false := by
    cases its with
    | nil => exact absurd rfl hn
    | cons a b => rfl
  have c1 : (its.toArray.isEmpty || (0 : Int) == 1) = false := by rw [hi]; rfl
  refine wpAny_binaryOp_repeat_ref (T := "tuple") (U := "int") (by decide) ⟨_, ho, rfl⟩ (fun s' => typeIs_int s' 0 t) noFill_tuple_mul F.fills_int_mul F.slot_int_rmul repeat_tuple F.slot_int_index.lookup
    (call_meets F.slot_int_rmul (typeIs_int s 0 t) F.entry_int_rmul (F.args_int_rmul_2 _ _) (int_rmul_tuple 0 t l its.toArray n dd sl)
      ⟨ho, rfl, ⟨_, ho, rfl⟩, call_meets F.slot_tuple_mul ⟨_, ho, rfl⟩ F.entry_tuple_mul (F.args_tuple_mul_2 _ _) (tuple_mulN l its.toArray n dd sl t c1) ⟨ho, ?_⟩⟩)
  refine ⟨.ref s.heap.objs.size, _, I.laid (t' := s.toks) (o := .tup []) (fun b ob q => Heap.get?_push_of_some _ q) (Nat.le_refl _) ?_, rfl, q _ (I.hok.fresh (Nat.le_refl _))⟩
  exact ⟨Nat.zero_le _, [], .nil, IsTup.new _ _⟩
theorem op_repTz0 {X : Cx} : OpR X (binaryOp .Mult) (fun x y H Q => ∃ l, x = .ref l ∧ y = .int 0 ∧ SqT X.K H l [] ∧ Q (.ref l) H) := by
  intro pins s σ H x y v u Q I rx ry h
  obtain ⟨l, rfl, rfl, hT, q⟩ := h
  cases rx
  obtain ⟨t, rfl⟩ := ry
  obtain ⟨its, r, ⟨⟨cls, dd, data, sl⟩, ho, hc, n, hd⟩, hs⟩ := I.tuple hT
  cases r
  simp only at hc hd
  subst hc hd
  have c0 : (decide ((0 : Int) < -(2 ^ 63)) || decide ((0 : Int) ≥ 2 ^ 63)) = false := by decide
  exact wpAny_binaryOp_repeat_ref (T := "tuple") (U := "int") (by decide) ⟨_, ho, rfl⟩ (fun s' => typeIs_int s' 0 t) noFill_tuple_mul F.fills_int_mul F.slot_int_rmul repeat_tuple F.slot_int_index.lookup
    (call_meets F.slot_int_rmul (typeIs_int s 0 t) F.entry_int_rmul (F.args_int_rmul_2 _ _) (int_rmul_tuple 0 t l #[] n dd sl)
      ⟨ho, rfl, ⟨_, ho, rfl⟩, call_meets F.slot_tuple_mul ⟨_, ho, rfl⟩ F.entry_tuple_mul (F.args_tuple_mul_2 _ _) (tuple_mul0 l n dd sl 0 t c0) ⟨ho, ⟨.ref l, H, I, rfl, q⟩⟩⟩)
def rRepTB (K : PySem.W.Frag) : R2 := fun x y H Q => rRepTA K x y H Q ∨ (rRepT1 K x y H Q ∨ ((∃ l xs, x = .ref l ∧ y = .int 0 ∧ SqT K H l xs ∧ xs ≠ [] ∧ ∀ p, H p = none → Q (.ref p) (upd H p (.tup []))) ∨ ∃ l, x = .ref l ∧ y = .int 0 ∧ SqT K H l [] ∧ Q (.ref l) H))
theorem op_repTB {X : Cx} : OpR X (binaryOp .Mult) (rRepTB X.K) := OpR.or op_repTA (OpR.or op_repT1 (OpR.or op_repTz op_repTz0))
section
variable {K : PySem.W.Frag}
def dMulTB : D → D → Option D
  | .tuple ds, .int k => if decide (0 ≤ k ∧ k ≤ 1000 ∧ ds.length * k.toNat ≤ 1000) = true then some (.tuple (repD k.toNat ds)) else none
  | _, _ => none
theorem od_mulTB : OpD K (rRepTB K) dMulTB := by
  intro O H x y d e z hO l1 l2 hz Q q
  match d, e, hz, l1, l2 with
  | .tuple ds, .int k, hz, l1, l2 =>
    simp only [dMulTB] at hz
    split at hz
    · rename_i h
      cases hz
      have h := of_decide_eq_true h
      by_cases h2 : 2 ≤ k
      · exact .inl (od_mulTA O H x y (.tuple ds) (.int k) _ hO l1 l2 (c_mulTA h2 h.2.1 (by
          have : ds.length * 1 ≤ ds.length * k.toNat := Nat.mul_le_mul_left _ (by omega)
          omega)) Q q)
      · have r0 := (show Rp K O H x (.tuple ds) from l1)
        obtain ⟨a, xs, rfl, s1, r1, _⟩ := Rp.tupI r0
        cases Rp.sc l2
        by_cases h1 : k = 1
        · subst h1
          have e : repD (1 : Int).toNat ds = ds := by unfold repD; simp
          rw [e] at q
          exact .inr (.inl ⟨a, xs, rfl, rfl, s1, q _ H Ext.refl r0⟩)
        · have h0 : k = 0 := by omega
          subst h0
          have e : repD (0 : Int).toNat ds = [] := rfl
          rw [e] at q
          by_cases hx : xs = []
          · subst hx
            cases r1
            exact .inr (.inr (.inr ⟨a, rfl, rfl, s1, q _ H Ext.refl r0⟩))
          · refine .inr (.inr (.inl ⟨a, xs, rfl, rfl, s1, hx, fun p hp => q _ _ (Ext.new hp) ?_⟩))
            exact .tup (.inl ⟨.inl upd_same, fun ho => hO p ho hp⟩) .nil
    · cases hz
theorem c_mulTB {ds : List D} {k : Int} (h2 : 0 ≤ k) (h3 : k ≤ 1000) (h4 : ds.length * k.toNat ≤ 1000) : dMulTB (.tuple ds) (.int k) = some (.tuple (repD k.toNat ds)) := if_pos (decide_eq_true ⟨h2, h3, h4⟩)
end
end GD

set_option maxHeartbeats 4000000
/-! try with one class, or with a tuple of any number of classes -/
namespace PySem.W
open PySem PySem.Spec PySem.Calls PyProof.Rows
section
variable {M : Model} {K : Frag}
theorem exm_loop1 {cls : Value} {A : Around} {E : Value → Shared → Prop} {s : Shared} : ∀ (cs : List Value) (b : Bool) (f : Value → PUnit → Sem (ForInStep PUnit)) (Q : PUnit → Shared → Prop), exmAny K cls cs = some b → K.In s.heap →
    (∀ c, (∀ (A : Around) (Q : Bool → Shared → Prop) (E : Value → Shared → Prop), Q true s → wpAny M A (isExcClass c) Q E s) → ∀ Q' : ForInStep PUnit → Shared → Prop, Q' (.yield ⟨⟩) s → wpAny M A (f c ⟨⟩) Q' E s) → Q ⟨⟩ s → wpAny M A (forIn cs PUnit.unit f) Q E s
  | [], b, f, Q, _, _, _, q => by
    rw [List.forIn_nil]
    exact wpAny_pure q
  | c :: cs, b, f, Q, h, X, hf, q => by
    obtain ⟨b1, d1, x1, y1, z1⟩ := exmAny_cons h
    obtain ⟨e1, _⟩ := exm_cls (M := M) X x1
    rw [List.forIn_cons]
    refine wpAny_bind (hf c (fun A Q E q => e1.at q) _ ?_)
    exact exm_loop1 cs d1 f Q y1 X hf q
theorem exm_loop2 {cls : Value} {A : Around} {E : Value → Shared → Prop} {s : Shared} (r0 : (Option Bool × Unit)) : ∀ (cs : List Value) (b : Bool) (f : Value → (Option Bool × Unit) → Sem (ForInStep ((Option Bool × Unit)))) (Q : (Option Bool × Unit) → Shared → Prop), exmAny K cls cs = some b → K.In s.heap →
    (∀ c v, exmOne K cls c = some v → ∀ Q' : ForInStep ((Option Bool × Unit)) → Shared → Prop, (v = true → Q' (.done (some true, ())) s) → (v = false → Q' (.yield r0) s) → wpAny M A (f c r0) Q' E s) →
    (b = true → Q (some true, ()) s) → (b = false → Q r0 s) → wpAny M A (forIn cs r0 f) Q E s
  | [], b, f, Q, h, _, _, _, q => by
    rw [List.forIn_nil]
    have : some false = some b := h
    exact wpAny_pure (q (Option.some.inj this).symm)
  | c :: cs, b, f, Q, h, X, hf, qt, qf => by
    obtain ⟨b1, d1, x1, y1, rfl⟩ := exmAny_cons h
    rw [List.forIn_cons]
    refine wpAny_bind (hf c b1 x1 _ (fun e => ?_) fun e => ?_)
    · subst e
      exact wpAny_pure (qt rfl)
    · subst e
      rw [Bool.false_or] at qt qf
      exact exm_loop2 r0 cs d1 f Q y1 X hf qt qf
theorem exm_tupN {cs : List Value} {cls : Value} {tp e : Addr} {b : Bool} {h : Heap} (X : K.In h) (LT : Looks M h (typeOf (.ref e)) cls) (hp : h.get? tp = some { cls := .type "tuple", data := .seq cs.toArray }) (hx : exmAny K cls cs = some b) :
    Looks M h (excMatches (.ref e) (.ref tp)) b := by
  intro A Q E s k₀ q
  obtain ⟨hh, g, d, tk, os⟩ := s
  have k : ∀ b o, h.get? b = some o → hh.get? b = some o := k₀
  have LT0 : Looks M h (isInstance (.ref tp) (.type "tuple")) true := ((Looks.ld hp).andThen .now).andThen (Looks.of_pure isSubtype_tuple_tuple)
  have LT := LT.keeps k
  have LT0 := LT0.keeps k
  have hp' := k _ _ hp
  have X' := X.keeps k
  unfold excMatches
  refine wpAny_bind (LT0.at ?_)
  dsimp only
  rw [if_pos rfl]
  first
    | refine wpAny_bind (wpAny_seqItems hp' rfl ?_)
    | refine wpAny_bind (wpAny_bind (wpAny_seqItems hp' rfl (wpAny_pure ?_)))
  dsimp only [Option.getD_some, Option.getD]
  refine wpAny_bind (wpAny_pure ?_)
  refine (wpAny_bind (exm_loop1 (s := { heap := hh, gens := g, drawn := d, toks := tk, os := os }) cs b _ _ hx X' (fun c hc Q' q' => ?_) ?_))
  · refine wpAny_bind (hc _ _ _ ?_)
    simp only [Bool.not_true, Bool.false_eq_true, if_false]
    exact wpAny_pure q'
  · refine wpAny_bind (LT.at ?_)
    refine wpAny_bind (exm_loop2 (s := { heap := hh, gens := g, drawn := d, toks := tk, os := os }) _ cs b _ _ hx X' (fun c v hv Q' qt qf => ?_) (fun e => ?_) (fun e => ?_))
    · refine wpAny_bind ((exm_cls (M := M) X' hv).2.at ?_)
      cases v with
      | true => exact wpAny_pure (qt rfl)
      | false => exact wpAny_pure (qf rfl)
    · subst e
      exact wpAny_pure q
    · subst e
      exact wpAny_pure q
end
end PySem.W
namespace GDX
open PySem PySem.Spec PyProof.Rows L2 GD
inductive NamesEx (X : Cx) : List Expr → List Value → Prop
  | nil : NamesEx X [] []
  | cons {x : Str} {c : Value} {p : Pos} {es : List Expr} {cs : List Value} : Names X x c → NamesEx X es cs → NamesEx X (.Name x p :: es) (c :: cs)
theorem NamesEx.to {X Y : Cx} (f : ∀ x c, Names X x c → Names Y x c) : ∀ {es : List Expr} {cs : List Value}, NamesEx X es cs → NamesEx Y es cs
  | _, _, .nil => .nil
  | _, _, .cons h t => .cons (f _ _ h) (NamesEx.to f t)
theorem NamesEx.len {X : Cx} : ∀ {es : List Expr} {cs : List Value}, NamesEx X es cs → es.length = cs.length
  | _, _, .nil => rfl
  | _, _, .cons _ t => congrArg (· + 1) (NamesEx.len t)
theorem names_eval {Y : Cx} {pins : List (Addr × Obj)} {σ : L2.St} {H : Hp} {s : Shared} {pos : Pos} {E : Value → Shared → Prop} (I : Inv Y pins σ H s) : ∀ {es : List Expr} {cs : List Value} {Q : List Value → Shared → Prop}, NamesEx Y es cs → Q cs s →
    wpAny (model Y.prog Y.w) Y.A (spliced (backTo pos (starEach es Y.env))) Q E s
  | _, _, _, .nil, q => wpAny_items_nil q
  | _, _, _, .cons h t, q => wpAny_items_cons (ld_cls h I (names_eval I t q))
def wTrN (K : PySem.W.Frag) (cs : List Value) (i : Nat) (ts : TS) (D : Ends) : WX := fun cls d σ H => PySem.W.exmAny K cls cs = some true ∧ ∀ a, H a = none →
  ts { nx := fun σ' H' => D.nx (σ'.set i none) H', rt := D.rt, bk := fun σ' H' => D.bk (σ'.set i none) H', ct := fun σ' H' => D.ct (σ'.set i none) H' } (σ.set i (some (.ref a))) (upd H a (XO cls d a))
section
variable {X : Cx} {x1 n : Str} {c1 : Value} {cs : List Value} {elts : List Expr} {i kk : Nat} {body suite : List Stmt} {b₀ : Stmt} {p1 tp pos pos' : Pos} {tb : WX → TS} {ts : TS}
theorem ps_tryN (hs : X.stack = X.env :: X.outer) (hf : X.env.frame = some X.env.locals) (hex : X.ex = []) (hN : X.N.Nodup) (hi : X.N[i]? = some n) (hln : X.env.kindOf n = some .local) (hcs : cs.length ≤ 20) (nn : NamesEx X elts cs)
    (hb : ∀ (W : WX) (pn : List (Addr × Obj)) (xe : Value → Shared → Prop), Takes (X.tr pn xe) W → PassesOwn (model X.prog X.w) X.A X.env xe → PSs (X.tr pn xe) body (tb W))
    (hsu : ∀ (a : Addr) (pn : List (Addr × Obj)), PSs (X.suite a pn) (b₀ :: suite) ts) :
    PS X (.Try body [.ExceptHandler (some (.Tuple elts kk tp)) (some n) (b₀ :: suite) pos'] [] [] pos) (fun D σ H => tb (wTrN X.K cs i ts D) D σ H) := by
  constructor
  intro pins s σ H D I h
  have okX := I.ok
  have frames : X.A.frames = some (X.env :: X.outer) := okX.frames.trans (congrArg some hs)
  refine wpAny_Try_except (wpAny_mono ((hb (wTrN X.K cs i ts D) (X.pn ++ pins) (fun u s₁ => wpAny (model X.prog X.w) X.A (noteFrame u X.env) (fun _ s₂ => wpAny (model X.prog X.w) X.A (setFlight u none) (fun _ s₃ =>
    wpAny (model X.prog X.w) X.A (handleBy u X.env [.ExceptHandler (some (.Tuple elts kk tp)) (some n) (b₀ :: suite) pos']) (SP X pins D) X.xe s₃) X.xe s₂) X.xe s₁) (fun u s' caught => ?_) PassesOwn.looking).run [] s σ H D (I.toTry _) h) (fun fl s1 out => ?_) fun _ _ z => z)
  · obtain ⟨a, B, sI, pins', σ', H', cls, d, rfl, JT, ground, slots, sky, na, os, gens, hm, good⟩ := caught
    have J : Inv X pins σ' H' sI := JT.ofTry okX
    rw [show X.stack = X.env :: X.outer from hs] at sky
    show wpAny (model X.prog X.w) X.A (noteFrame (.ref a) X.env) _ _ _
    refine Sky.land Zc.steady frames hf sky fun h3 f3 u3 => ?_
    have JL : Inv X pins σ' H' { s' with heap := h3 } := J.landed ground f3.1 (slots.trans u3) os gens
    obtain ⟨oe3, vs3, g3, z3, d3⟩ := f3.there
    have noFrame : a ∉ frs (X.env :: X.outer) := fun m => by
      obtain ⟨_, ob, e1, e2⟩ := f3.2.2.1.mem m
      rw [g3] at e1
      cases e1
      exact e2 _ d3
    have nL : a ≠ X.env.locals := fun z => noFrame (List.mem_filterMap.mpr ⟨X.env, List.mem_cons_self, by rw [hf, z]⟩)
    have nF : a ∉ X.fs := fun m => by
      obtain ⟨v, hv, e⟩ := List.mem_filterMap.mp m
      exact noFrame (List.mem_filterMap.mpr ⟨v, List.mem_cons_of_mem _ hv, e⟩)
    have newI : ∀ o, sI.heap.get? a ≠ some o := fun o e => by
      have := ground a o e (by rw [hs]; exact noFrame)
      rw [f3.2.1] at this
      cases this
    have n0 : X.s_0.heap.get? a = none := by
      cases e : X.s_0.heap.get? a with
      | none => rfl
      | some o =>
        obtain ⟨o', e'⟩ := J.base.there a o e (by rw [hex]; exact fun z => nomatch z)
        exact absurd e' (newI o')
    have np : ∀ p ∈ X.pn ++ pins, p.1 ≠ a := fun p hp z => newI p.2 (by rw [← z]; exact (J.pin p hp).1)
    have S3 := JL.suite g3 d3 na nL nF
    refine wpAny_handleBy_cons (codeAny_handlers_test ?_) (by intro q; cases q)
    have ty3 : PySem.W.Looks (model X.prog X.w) h3 (typeOf (.ref a)) cls := fun A Q E st kp q => wpAny_typeOf_ref (kp _ _ g3) (by rw [z3.1]; exact q)
    have m1 : NamesEx (X.suite a ((a, oe3) :: (X.pn ++ pins))) elts cs := NamesEx.to (X := X) (Y := X.suite a ((a, oe3) :: (X.pn ++ pins))) (fun x c h => h) nn
    refine wpAny_Tuple (names_eval S3 m1 ⟨by rw [sizeLine_eq]; omega, ?_⟩)
    have kp : ∀ b o, h3.get? b = some o → (h3.push { cls := .type "tuple", data := .seq cs.toArray }).get? b = some o := fun _ _ e => Heap.get?_push_of_some _ e
    refine (PySem.W.exm_tupN (JL.kIn.keeps kp) (ty3.keeps kp) (Heap.get?_push_size h3 rfl) hm).here ?_
    have f5 := fly_keeps f3 kp
    have u5 := (slots.trans u3).trans (Heap.UpToSlots.of_keeps kp)
    refine codeAny_handlers_suite_as (HandSPX.lands_againZ f5 fun h6 f6 u6 => ?_)
    have J6 : Inv X pins σ' H' { s' with heap := h6 } := J.landed ground f6.1 (u5.trans u6) os gens
    obtain ⟨oe6, vs6, g6, z6, d6⟩ := f6.there
    refine store_ok (X := X.suite a (X.pn ++ pins)) (v := .ref a) (into (track J6 g6 z6 d6 na n0 nL np) a) hN hi (.inl hln) rfl (fun s7 I7 => ?_) (.inr hln)
    refine wpAny_mono ((hsu a (X.pn ++ pins)).run [] s7 _ _ _ I7 (good a na)) (fun fl s8 out => ?_) fun _ _ z => False.elim z
    have back : ∀ {σ8 : L2.St} {H8 : Hp} {Q : Shared → Prop}, Inv (X.suite a (X.pn ++ pins)) [] σ8 H8 s8 → (∀ s9, Inv X pins (σ8.set i none) H8 s9 → Q s9) →
        wpAny (model X.prog X.w) X.A (do bindName X.env n .none; unbindBehindTheSuite X.env n pos') (fun _ s9 => Q s9) X.xe s8 := fun {σ8 H8 Q} I8 k => gone_ok (outof I8 okX) hN hi hln k
    cases fl with
    | next =>
      obtain ⟨_, _, I8, q⟩ := out
      exact back I8 fun s9 I9 => ⟨_, _, I9, q⟩
    | brk =>
      obtain ⟨_, _, I8, q⟩ := out
      exact back I8 fun s9 I9 => ⟨_, _, I9, q⟩
    | cont =>
      obtain ⟨_, _, I8, q⟩ := out
      exact back I8 fun s9 I9 => ⟨_, _, I9, q⟩
    | ret u =>
      obtain ⟨_, _, _, I8, r8, q⟩ := out
      exact back I8 fun s9 I9 => ⟨_, _, _, I9, r8, q⟩
  · cases fl with
    | next =>
      obtain ⟨_, _, J, q⟩ := out
      exact wpAny_execs_nil ⟨_, _, J.ofTry okX, q⟩
    | brk =>
      obtain ⟨_, _, J, q⟩ := out
      exact ⟨_, _, J.ofTry okX, q⟩
    | cont =>
      obtain ⟨_, _, J, q⟩ := out
      exact ⟨_, _, J.ofTry okX, q⟩
    | ret u =>
      obtain ⟨_, _, _, J, r, q⟩ := out
      exact ⟨_, _, _, J.ofTry okX, r, q⟩
theorem ps_try1 (hs : X.stack = X.env :: X.outer) (hf : X.env.frame = some X.env.locals) (hex : X.ex = []) (hN : X.N.Nodup) (hi : X.N[i]? = some n) (hln : X.env.kindOf n = some .local) (n1 : Names X x1 c1)
    (hb : ∀ (W : WX) (pn : List (Addr × Obj)) (xe : Value → Shared → Prop), Takes (X.tr pn xe) W → PassesOwn (model X.prog X.w) X.A X.env xe → PSs (X.tr pn xe) body (tb W))
    (hsu : ∀ (a : Addr) (pn : List (Addr × Obj)), PSs (X.suite a pn) (b₀ :: suite) ts) :
    PS X (.Try body [.ExceptHandler (some (.Name x1 p1)) (some n) (b₀ :: suite) pos'] [] [] pos) (fun D σ H => tb (wTrN X.K [c1] i ts D) D σ H) := by
  constructor
  intro pins s σ H D I h
  have okX := I.ok
  have frames : X.A.frames = some (X.env :: X.outer) := okX.frames.trans (congrArg some hs)
  refine wpAny_Try_except (wpAny_mono ((hb (wTrN X.K [c1] i ts D) (X.pn ++ pins) (fun u s₁ => wpAny (model X.prog X.w) X.A (noteFrame u X.env) (fun _ s₂ => wpAny (model X.prog X.w) X.A (setFlight u none) (fun _ s₃ =>
    wpAny (model X.prog X.w) X.A (handleBy u X.env [.ExceptHandler (some (.Name x1 p1)) (some n) (b₀ :: suite) pos']) (SP X pins D) X.xe s₃) X.xe s₂) X.xe s₁) (fun u s' caught => ?_) PassesOwn.looking).run [] s σ H D (I.toTry _) h) (fun fl s1 out => ?_) fun _ _ z => z)
  · obtain ⟨a, B, sI, pins', σ', H', cls, d, rfl, JT, ground, slots, sky, na, os, gens, hm, good⟩ := caught
    have J : Inv X pins σ' H' sI := JT.ofTry okX
    rw [show X.stack = X.env :: X.outer from hs] at sky
    show wpAny (model X.prog X.w) X.A (noteFrame (.ref a) X.env) _ _ _
    refine Sky.land Zc.steady frames hf sky fun h3 f3 u3 => ?_
    have JL : Inv X pins σ' H' { s' with heap := h3 } := J.landed ground f3.1 (slots.trans u3) os gens
    obtain ⟨oe3, vs3, g3, z3, d3⟩ := f3.there
    have noFrame : a ∉ frs (X.env :: X.outer) := fun m => by
      obtain ⟨_, ob, e1, e2⟩ := f3.2.2.1.mem m
      rw [g3] at e1
      cases e1
      exact e2 _ d3
    have nL : a ≠ X.env.locals := fun z => noFrame (List.mem_filterMap.mpr ⟨X.env, List.mem_cons_self, by rw [hf, z]⟩)
    have nF : a ∉ X.fs := fun m => by
      obtain ⟨v, hv, e⟩ := List.mem_filterMap.mp m
      exact noFrame (List.mem_filterMap.mpr ⟨v, List.mem_cons_of_mem _ hv, e⟩)
    have newI : ∀ o, sI.heap.get? a ≠ some o := fun o e => by
      have := ground a o e (by rw [hs]; exact noFrame)
      rw [f3.2.1] at this
      cases this
    have n0 : X.s_0.heap.get? a = none := by
      cases e : X.s_0.heap.get? a with
      | none => rfl
      | some o =>
        obtain ⟨o', e'⟩ := J.base.there a o e (by rw [hex]; exact fun z => nomatch z)
        exact absurd e' (newI o')
    have np : ∀ p ∈ X.pn ++ pins, p.1 ≠ a := fun p hp z => newI p.2 (by rw [← z]; exact (J.pin p hp).1)
    have S3 := JL.suite g3 d3 na nL nF
    refine wpAny_handleBy_cons (codeAny_handlers_test ?_) (by intro q; cases q)
    have ty3 : PySem.W.Looks (model X.prog X.w) h3 (typeOf (.ref a)) cls := fun A Q E st kp q => wpAny_typeOf_ref (kp _ _ g3) (by rw [z3.1]; exact q)
    have m1 : Names (X.suite a ((a, oe3) :: (X.pn ++ pins))) x1 c1 := n1
    refine ld_cls m1 S3 ?_
    obtain ⟨b1, d1, x1', y1', z1'⟩ := PySem.W.exmAny_cons hm
    have hd1 : d1 = false := by cases y1'; rfl
    have hb1 : b1 = true := by rw [hd1, Bool.or_false] at z1'; exact z1'.symm
    rw [hb1] at x1'
    refine (PySem.W.exm_one JL.kIn ty3 x1').here ?_
    refine codeAny_handlers_suite_as (HandSPX.lands_againZ f3 fun h6 f6 u6 => ?_)
    have J6 : Inv X pins σ' H' { s' with heap := h6 } := J.landed ground f6.1 ((slots.trans u3).trans u6) os gens
    obtain ⟨oe6, vs6, g6, z6, d6⟩ := f6.there
    refine store_ok (X := X.suite a (X.pn ++ pins)) (v := .ref a) (into (track J6 g6 z6 d6 na n0 nL np) a) hN hi (.inl hln) rfl (fun s7 I7 => ?_) (.inr hln)
    refine wpAny_mono ((hsu a (X.pn ++ pins)).run [] s7 _ _ _ I7 (good a na)) (fun fl s8 out => ?_) fun _ _ z => False.elim z
    have back : ∀ {σ8 : L2.St} {H8 : Hp} {Q : Shared → Prop}, Inv (X.suite a (X.pn ++ pins)) [] σ8 H8 s8 → (∀ s9, Inv X pins (σ8.set i none) H8 s9 → Q s9) →
        wpAny (model X.prog X.w) X.A (do bindName X.env n .none; unbindBehindTheSuite X.env n pos') (fun _ s9 => Q s9) X.xe s8 := fun {σ8 H8 Q} I8 k => gone_ok (outof I8 okX) hN hi hln k
    cases fl with
    | next =>
      obtain ⟨_, _, I8, q⟩ := out
      exact back I8 fun s9 I9 => ⟨_, _, I9, q⟩
    | brk =>
      obtain ⟨_, _, I8, q⟩ := out
      exact back I8 fun s9 I9 => ⟨_, _, I9, q⟩
    | cont =>
      obtain ⟨_, _, I8, q⟩ := out
      exact back I8 fun s9 I9 => ⟨_, _, I9, q⟩
    | ret u =>
      obtain ⟨_, _, _, I8, r8, q⟩ := out
      exact back I8 fun s9 I9 => ⟨_, _, _, I9, r8, q⟩
  · cases fl with
    | next =>
      obtain ⟨_, _, J, q⟩ := out
      exact wpAny_execs_nil ⟨_, _, J.ofTry okX, q⟩
    | brk =>
      obtain ⟨_, _, J, q⟩ := out
      exact ⟨_, _, J.ofTry okX, q⟩
    | cont =>
      obtain ⟨_, _, J, q⟩ := out
      exact ⟨_, _, J.ofTry okX, q⟩
    | ret u =>
      obtain ⟨_, _, _, J, r, q⟩ := out
      exact ⟨_, _, _, J.ofTry okX, r, q⟩
end
end GDX

set_option maxHeartbeats 2000000
/-! own error classes with the fields line, index, step -/
namespace GDX
open PySem PySem.W PySem.Calls PyProof.Rows PySem.HandSPX Builtin.ObjectAttr

/-! ### field line -/
namespace XN
def iA (p1 p2 : Pos) : Arguments := { posonlyargs := [], args := [{ arg := "self", annotation := none, pos := p1 }, { arg := "line", annotation := none, pos := p2 }], vararg := none, kwonlyargs := [], kw_defaults := [], kwarg := none, defaults := [] }
def iB (q1 q2 q3 q4 : Pos) : List Stmt := [.Assign [.Attribute (.Name "self" q1) "line" q2] (.Name "line" q3) q4]
def iS : Scope := { kind := .function, names := [(PySem.Str.ofString "self", .local), (PySem.Str.ofString "line", .local)], isGenerator := false, isCoroutine := false, more := [] }
/-- what the written part says of the class at C (over the built-in B), and of its __init__ at fI -/
structure XT (K : Frag) (mg : Str → Option Value) (nm : Str) (bmB : List Value) (newId : String) (C fI : Addr) : Prop where
  gC : mg nm = some (.ref C)
  ini : excInitIn K C bmB newId = true
  ov : excOver K C bmB = true
  sa : findIn K (.ref C) "__setattr__" = some (some (.builtin "object.__setattr__"))
  ga : findIn K (.ref C) "__getattribute__" = some (some (.builtin "BaseException.__getattribute__"))
  gg : findIn K (.ref C) "__getattr__" = some none
  noN : findIn K (.ref C) "line" = some none
  iC : findIn K (.ref C) "__init__" = some (some (.ref fI))
  tC : typeIn K (.ref fI) = some (.type "function")
  kC : keepIn K (.ref C) = true
  exC : subIn K (.ref C) (.type "BaseException") = some true
  tyC : typeIn K (.ref C) = some (.type "type")
  hdC : hasDictIn K C = true
  fn : ∃ (st : Stmt) (qn : Str) (oc : Value) (od : Option Addr) (kV doc pm : Value) (an : Option Addr) (cdv ct : Value) (osl : Array (Option Value)),
    K.lookup fI = some ⟨oc, od, .func (fnOf "__init__" qn (L2.defArgs st) (L2.defBody st) (L2.defScope st) .none kV doc pm an cdv ct), osl⟩ ∧ codeIn K cdv qn = true ∧
      (∃ p1 p2 : Pos, L2.defArgs st = iA p1 p2) ∧ (∃ q1 q2 q3 q4 : Pos, L2.defBody st = iB q1 q2 q3 q4) ∧ L2.defScope st = iS
/-- what __init__ leaves of a fresh error at x -/
structure IEnd (h h' : Heap) (x C dx t1 : Addr) (v : Value) : Prop where
  keep : ∀ b o, b ≠ x → h.get? b = some o → h'.get? b = some o
  obj : h'.get? x = some (excObj C t1 (some dx) .none)
  big : h.objs.size ≤ dx
  ne : dx ≠ x
  ns : h'.Ns1 dx (fun y => if y = "line" then some v else none)
structure Made (h h' : Heap) (e C d : Addr) (v : Value) : Prop where
  keep : ∀ b o, h.get? b = some o → h'.get? b = some o
  new : h.objs.size ≤ e
  obj : ∃ t1 : Addr, h'.get? e = some (excObj C t1 (some d) .none)
  big : h.objs.size ≤ d
  ne : d ≠ e
  ns : h'.Ns1 d (fun y => if y = "line" then some v else none)
theorem ldC {M : Model} {s : Shared} {name : Str} {scope : Scope} {L a : Addr} {cd : Value} {m : Str → Option Value} {x : Str} {pos : Pos} {v : Value} {Q : Value → Shared → Prop} {A : Around} {E : Value → Shared → Prop} (hn : s.heap.Ns L m) (hv : m x = some v) (h : Q v s)
    (hk : scope.kind = .function := by rfl) (hl : (envOfC name scope L a cd).kindOf x = some .local := by rfl) (hd : (x == ("__debug__" : Str)) = false := by decide) :
    wpAny M A (eval (.Name x pos) (envOfC name scope L a cd)) Q E s := wpAny_Name (wpAny_loadName_local hk hl hn hv h) hd
section
variable {prog : Program} {w : World} {A : Around} {E : Value → Shared → Prop} {R : Result → Shared → Prop} {s : Shared} {K : Frag} {mg : Str → Option Value} {nm : Str} {bmB : List Value} {B newId initId : String} {C fI : Addr}
theorem init_runs (SF : StoreFacts B bmB "object.__setattr__" "object") (T : XT K mg nm bmB newId C fI) {x t0 : Addr} {v : Value} (X : K.In s.heap) (hlim : s.heap.NoLimit) (hx : s.heap.get? x = some (excO C t0)) (hroom : A.depth < recursionLimit)
    (hq : ∀ h' tk dx, IEnd s.heap h' x C dx t0 v → R (.ok (.ret .none)) { s with heap := h', toks := tk }) :
    codeAny (model prog w) A (.call (.ref fI) ⟨[.ref x, v], []⟩) R s := by
  obtain ⟨st, qn, oc, od, kV, doc, pm, an, cdv, ct, osl, ho, hcd, ⟨p1, p2, eA⟩, ⟨q1, q2, q3, q4, eB⟩, eS⟩ := T.fn
  rw [eA, eB, eS] at ho
  refine Att.call_fn (binds := [("self", .ref x), ("line", v)]) X hlim ho hcd hroom (BindsTo.of_eq (by first | rfl | with_unfolding_all rfl)) (by first | rfl | decide | with_unfolding_all rfl) (fun s₁ IC => ?_) rfl rfl rfl
  obtain ⟨h₁, tk₁, rfl⟩ := IC.toInCall.same
  have k : ∀ b o, s.heap.get? b = some o → h₁.get? b = some o := IC.toInCall.keep
  have hn := IC.toInCall.ns
  have X₁ : K.In h₁ := X.keeps k
  have hx₁ := k _ _ hx
  show wpAny _ _ (execs _ _) _ _ _
  refine wpAny_execs_cons (plainObj_wpAny_Assign_Attribute ?_)
  refine ldC (v := v) hn (by first | rfl | with_unfolding_all rfl | kernel_rfl) (ldC (v := .ref x) hn (by first | rfl | with_unfolding_all rfl | kernel_rfl) ?_)
  refine set_plain X₁ (ox := excO C t0) (od := none) ⟨hx₁, rfl, rfl, trivial⟩ T.sa ?_
  refine store1 SF X₁ hx₁ T.ov (by unfold takerIn; rw [T.noN]; rfl) T.hdC fun h₃ tk₃ dx k₃ dn dne hx₃ hn₃ => ?_
  show wpAny _ _ (execs _ _) _ _ _
  have z : s.heap.objs.size < h₁.objs.size := hn.lt
  exact wpAny_execs_nil (hq h₃ tk₃ dx ⟨fun b o hb e => k₃ b o hb (k b o e), hx₃, Nat.le_of_lt (Nat.lt_of_lt_of_le z dn), dne, hn₃⟩)
theorem made (FB : ExcBaseFacts B newId initId bmB) (SF : StoreFacts B bmB "object.__setattr__" "object") (T : XT K mg nm bmB newId C fI) {v : Value} (X : K.In s.heap) (hlim : s.heap.NoLimit) (hroom : A.depth + 1 < recursionLimit)
    (hq : ∀ h' tk e d, Made s.heap h' e C d v → R (.ok (.ret (.ref e))) { s with heap := h', toks := tk }) :
    codeAny (model prog w) A (.call (.ref C) ⟨[v], []⟩) R s := by
  obtain ⟨nmC, N, qC, bs, bm, hdct, sn, sub, ab, col, dd, k0, k1, k2, k3, k5, hC, hT⟩ := excInit_of X T.ini
  obtain ⟨hp, g, dr, tk, os⟩ := s
  have k : ∀ b o, hp.get? b = some o → ((hp.push (kdv_tup [v])).push (excO C hp.objs.size)).get? b = some o := fun b o e => Heap.get?_push_of_some _ (Heap.get?_push_of_some _ e)
  have hget : ((hp.push (kdv_tup [v])).push (excO C hp.objs.size)).get? (hp.objs.size + 1) = some (excO C hp.objs.size) := by heap_get
  refine call_own FB hT hC (looks_findIn X T.iC) (fun self => bind_fn X self T.tC) (by rw [sizeLine_eq]; exact (by decide : 1 ≤ 16777216)) ?_
  refine init_runs (s := ⟨(hp.push (kdv_tup [v])).push (excO C hp.objs.size), g, dr, tk, os⟩) SF T (X.keeps k) (hlim.keeps k) hget ?_ fun h' tk' dx ⟨k', hx, dn, dne, hns⟩ => ?_
  · show A.depth + 1 < recursionLimit
    exact hroom
  · have old : ∀ b o, hp.get? b = some o → h'.get? b = some o := fun b o e => k' b o (Nat.ne_of_lt (Nat.lt_succ_of_lt (Heap.lt_size e))) (k b o e)
    have z : hp.objs.size + 1 + 1 ≤ dx := by
      first
        | (simpa only [Heap.size_push] using dn)
        | exact dn
        | (have q := dn; rw [Heap.size_push, Heap.size_push] at q; exact q)
    exact ⟨rfl, hq h' tk' (hp.objs.size + 1) dx ⟨old, Nat.le_succ _, ⟨_, hx⟩, Nat.le_trans (Nat.le_trans (Nat.le_succ _) (Nat.le_succ _)) z, dne, hns⟩⟩
end
end XN

/-! ### field index -/
namespace XI
def iA (p1 p2 : Pos) : Arguments := { posonlyargs := [], args := [{ arg := "self", annotation := none, pos := p1 }, { arg := "index", annotation := none, pos := p2 }], vararg := none, kwonlyargs := [], kw_defaults := [], kwarg := none, defaults := [] }
def iB (q1 q2 q3 q4 : Pos) : List Stmt := [.Assign [.Attribute (.Name "self" q1) "index" q2] (.Name "index" q3) q4]
def iS : Scope := { kind := .function, names := [(PySem.Str.ofString "self", .local), (PySem.Str.ofString "index", .local)], isGenerator := false, isCoroutine := false, more := [] }
/-- what the written part says of the class at C (over the built-in B), and of its __init__ at fI -/
structure XT (K : Frag) (mg : Str → Option Value) (nm : Str) (bmB : List Value) (newId : String) (C fI : Addr) : Prop where
  gC : mg nm = some (.ref C)
  ini : excInitIn K C bmB newId = true
  ov : excOver K C bmB = true
  sa : findIn K (.ref C) "__setattr__" = some (some (.builtin "object.__setattr__"))
  ga : findIn K (.ref C) "__getattribute__" = some (some (.builtin "BaseException.__getattribute__"))
  gg : findIn K (.ref C) "__getattr__" = some none
  noN : findIn K (.ref C) "index" = some none
  iC : findIn K (.ref C) "__init__" = some (some (.ref fI))
  tC : typeIn K (.ref fI) = some (.type "function")
  kC : keepIn K (.ref C) = true
  exC : subIn K (.ref C) (.type "BaseException") = some true
  tyC : typeIn K (.ref C) = some (.type "type")
  hdC : hasDictIn K C = true
  fn : ∃ (st : Stmt) (qn : Str) (oc : Value) (od : Option Addr) (kV doc pm : Value) (an : Option Addr) (cdv ct : Value) (osl : Array (Option Value)),
    K.lookup fI = some ⟨oc, od, .func (fnOf "__init__" qn (L2.defArgs st) (L2.defBody st) (L2.defScope st) .none kV doc pm an cdv ct), osl⟩ ∧ codeIn K cdv qn = true ∧
      (∃ p1 p2 : Pos, L2.defArgs st = iA p1 p2) ∧ (∃ q1 q2 q3 q4 : Pos, L2.defBody st = iB q1 q2 q3 q4) ∧ L2.defScope st = iS
/-- what __init__ leaves of a fresh error at x -/
structure IEnd (h h' : Heap) (x C dx t1 : Addr) (v : Value) : Prop where
  keep : ∀ b o, b ≠ x → h.get? b = some o → h'.get? b = some o
  obj : h'.get? x = some (excObj C t1 (some dx) .none)
  big : h.objs.size ≤ dx
  ne : dx ≠ x
  ns : h'.Ns1 dx (fun y => if y = "index" then some v else none)
structure Made (h h' : Heap) (e C d : Addr) (v : Value) : Prop where
  keep : ∀ b o, h.get? b = some o → h'.get? b = some o
  new : h.objs.size ≤ e
  obj : ∃ t1 : Addr, h'.get? e = some (excObj C t1 (some d) .none)
  big : h.objs.size ≤ d
  ne : d ≠ e
  ns : h'.Ns1 d (fun y => if y = "index" then some v else none)
theorem ldC {M : Model} {s : Shared} {name : Str} {scope : Scope} {L a : Addr} {cd : Value} {m : Str → Option Value} {x : Str} {pos : Pos} {v : Value} {Q : Value → Shared → Prop} {A : Around} {E : Value → Shared → Prop} (hn : s.heap.Ns L m) (hv : m x = some v) (h : Q v s)
    (hk : scope.kind = .function := by rfl) (hl : (envOfC name scope L a cd).kindOf x = some .local := by rfl) (hd : (x == ("__debug__" : Str)) = false := by decide) :
    wpAny M A (eval (.Name x pos) (envOfC name scope L a cd)) Q E s := wpAny_Name (wpAny_loadName_local hk hl hn hv h) hd
section
variable {prog : Program} {w : World} {A : Around} {E : Value → Shared → Prop} {R : Result → Shared → Prop} {s : Shared} {K : Frag} {mg : Str → Option Value} {nm : Str} {bmB : List Value} {B newId initId : String} {C fI : Addr}
theorem init_runs (SF : StoreFacts B bmB "object.__setattr__" "object") (T : XT K mg nm bmB newId C fI) {x t0 : Addr} {v : Value} (X : K.In s.heap) (hlim : s.heap.NoLimit) (hx : s.heap.get? x = some (excO C t0)) (hroom : A.depth < recursionLimit)
    (hq : ∀ h' tk dx, IEnd s.heap h' x C dx t0 v → R (.ok (.ret .none)) { s with heap := h', toks := tk }) :
    codeAny (model prog w) A (.call (.ref fI) ⟨[.ref x, v], []⟩) R s := by
  obtain ⟨st, qn, oc, od, kV, doc, pm, an, cdv, ct, osl, ho, hcd, ⟨p1, p2, eA⟩, ⟨q1, q2, q3, q4, eB⟩, eS⟩ := T.fn
  rw [eA, eB, eS] at ho
  refine Att.call_fn (binds := [("self", .ref x), ("index", v)]) X hlim ho hcd hroom (BindsTo.of_eq (by first | rfl | with_unfolding_all rfl)) (by first | rfl | decide | with_unfolding_all rfl) (fun s₁ IC => ?_) rfl rfl rfl
  obtain ⟨h₁, tk₁, rfl⟩ := IC.toInCall.same
  have k : ∀ b o, s.heap.get? b = some o → h₁.get? b = some o := IC.toInCall.keep
  have hn := IC.toInCall.ns
  have X₁ : K.In h₁ := X.keeps k
  have hx₁ := k _ _ hx
  show wpAny _ _ (execs _ _) _ _ _
  refine wpAny_execs_cons (plainObj_wpAny_Assign_Attribute ?_)
  refine ldC (v := v) hn (by first | rfl | with_unfolding_all rfl | kernel_rfl) (ldC (v := .ref x) hn (by first | rfl | with_unfolding_all rfl | kernel_rfl) ?_)
  refine set_plain X₁ (ox := excO C t0) (od := none) ⟨hx₁, rfl, rfl, trivial⟩ T.sa ?_
  refine store1 SF X₁ hx₁ T.ov (by unfold takerIn; rw [T.noN]; rfl) T.hdC fun h₃ tk₃ dx k₃ dn dne hx₃ hn₃ => ?_
  show wpAny _ _ (execs _ _) _ _ _
  have z : s.heap.objs.size < h₁.objs.size := hn.lt
  exact wpAny_execs_nil (hq h₃ tk₃ dx ⟨fun b o hb e => k₃ b o hb (k b o e), hx₃, Nat.le_of_lt (Nat.lt_of_lt_of_le z dn), dne, hn₃⟩)
theorem made (FB : ExcBaseFacts B newId initId bmB) (SF : StoreFacts B bmB "object.__setattr__" "object") (T : XT K mg nm bmB newId C fI) {v : Value} (X : K.In s.heap) (hlim : s.heap.NoLimit) (hroom : A.depth + 1 < recursionLimit)
    (hq : ∀ h' tk e d, Made s.heap h' e C d v → R (.ok (.ret (.ref e))) { s with heap := h', toks := tk }) :
    codeAny (model prog w) A (.call (.ref C) ⟨[v], []⟩) R s := by
  obtain ⟨nmC, N, qC, bs, bm, hdct, sn, sub, ab, col, dd, k0, k1, k2, k3, k5, hC, hT⟩ := excInit_of X T.ini
  obtain ⟨hp, g, dr, tk, os⟩ := s
  have k : ∀ b o, hp.get? b = some o → ((hp.push (kdv_tup [v])).push (excO C hp.objs.size)).get? b = some o := fun b o e => Heap.get?_push_of_some _ (Heap.get?_push_of_some _ e)
  have hget : ((hp.push (kdv_tup [v])).push (excO C hp.objs.size)).get? (hp.objs.size + 1) = some (excO C hp.objs.size) := by heap_get
  refine call_own FB hT hC (looks_findIn X T.iC) (fun self => bind_fn X self T.tC) (by rw [sizeLine_eq]; exact (by decide : 1 ≤ 16777216)) ?_
  refine init_runs (s := ⟨(hp.push (kdv_tup [v])).push (excO C hp.objs.size), g, dr, tk, os⟩) SF T (X.keeps k) (hlim.keeps k) hget ?_ fun h' tk' dx ⟨k', hx, dn, dne, hns⟩ => ?_
  · show A.depth + 1 < recursionLimit
    exact hroom
  · have old : ∀ b o, hp.get? b = some o → h'.get? b = some o := fun b o e => k' b o (Nat.ne_of_lt (Nat.lt_succ_of_lt (Heap.lt_size e))) (k b o e)
    have z : hp.objs.size + 1 + 1 ≤ dx := by
      first
        | (simpa only [Heap.size_push] using dn)
        | exact dn
        | (have q := dn; rw [Heap.size_push, Heap.size_push] at q; exact q)
    exact ⟨rfl, hq h' tk' (hp.objs.size + 1) dx ⟨old, Nat.le_succ _, ⟨_, hx⟩, Nat.le_trans (Nat.le_trans (Nat.le_succ _) (Nat.le_succ _)) z, dne, hns⟩⟩
end
end XI

/-! ### field step -/
namespace XP
def iA (p1 p2 : Pos) : Arguments := { posonlyargs := [], args := [{ arg := "self", annotation := none, pos := p1 }, { arg := "step", annotation := none, pos := p2 }], vararg := none, kwonlyargs := [], kw_defaults := [], kwarg := none, defaults := [] }
def iB (q1 q2 q3 q4 : Pos) : List Stmt := [.Assign [.Attribute (.Name "self" q1) "step" q2] (.Name "step" q3) q4]
def iS : Scope := { kind := .function, names := [(PySem.Str.ofString "self", .local), (PySem.Str.ofString "step", .local)], isGenerator := false, isCoroutine := false, more := [] }
/-- what the written part says of the class at C (over the built-in B), and of its __init__ at fI -/
structure XT (K : Frag) (mg : Str → Option Value) (nm : Str) (bmB : List Value) (newId : String) (C fI : Addr) : Prop where
  gC : mg nm = some (.ref C)
  ini : excInitIn K C bmB newId = true
  ov : excOver K C bmB = true
  sa : findIn K (.ref C) "__setattr__" = some (some (.builtin "object.__setattr__"))
  ga : findIn K (.ref C) "__getattribute__" = some (some (.builtin "BaseException.__getattribute__"))
  gg : findIn K (.ref C) "__getattr__" = some none
  noN : findIn K (.ref C) "step" = some none
  iC : findIn K (.ref C) "__init__" = some (some (.ref fI))
  tC : typeIn K (.ref fI) = some (.type "function")
  kC : keepIn K (.ref C) = true
  exC : subIn K (.ref C) (.type "BaseException") = some true
  tyC : typeIn K (.ref C) = some (.type "type")
  hdC : hasDictIn K C = true
  fn : ∃ (st : Stmt) (qn : Str) (oc : Value) (od : Option Addr) (kV doc pm : Value) (an : Option Addr) (cdv ct : Value) (osl : Array (Option Value)),
    K.lookup fI = some ⟨oc, od, .func (fnOf "__init__" qn (L2.defArgs st) (L2.defBody st) (L2.defScope st) .none kV doc pm an cdv ct), osl⟩ ∧ codeIn K cdv qn = true ∧
      (∃ p1 p2 : Pos, L2.defArgs st = iA p1 p2) ∧ (∃ q1 q2 q3 q4 : Pos, L2.defBody st = iB q1 q2 q3 q4) ∧ L2.defScope st = iS
/-- what __init__ leaves of a fresh error at x -/
structure IEnd (h h' : Heap) (x C dx t1 : Addr) (v : Value) : Prop where
  keep : ∀ b o, b ≠ x → h.get? b = some o → h'.get? b = some o
  obj : h'.get? x = some (excObj C t1 (some dx) .none)
  big : h.objs.size ≤ dx
  ne : dx ≠ x
  ns : h'.Ns1 dx (fun y => if y = "step" then some v else none)
structure Made (h h' : Heap) (e C d : Addr) (v : Value) : Prop where
  keep : ∀ b o, h.get? b = some o → h'.get? b = some o
  new : h.objs.size ≤ e
  obj : ∃ t1 : Addr, h'.get? e = some (excObj C t1 (some d) .none)
  big : h.objs.size ≤ d
  ne : d ≠ e
  ns : h'.Ns1 d (fun y => if y = "step" then some v else none)
theorem ldC {M : Model} {s : Shared} {name : Str} {scope : Scope} {L a : Addr} {cd : Value} {m : Str → Option Value} {x : Str} {pos : Pos} {v : Value} {Q : Value → Shared → Prop} {A : Around} {E : Value → Shared → Prop} (hn : s.heap.Ns L m) (hv : m x = some v) (h : Q v s)
    (hk : scope.kind = .function := by rfl) (hl : (envOfC name scope L a cd).kindOf x = some .local := by rfl) (hd : (x == ("__debug__" : Str)) = false := by decide) :
    wpAny M A (eval (.Name x pos) (envOfC name scope L a cd)) Q E s := wpAny_Name (wpAny_loadName_local hk hl hn hv h) hd
section
variable {prog : Program} {w : World} {A : Around} {E : Value → Shared → Prop} {R : Result → Shared → Prop} {s : Shared} {K : Frag} {mg : Str → Option Value} {nm : Str} {bmB : List Value} {B newId initId : String} {C fI : Addr}
theorem init_runs (SF : StoreFacts B bmB "object.__setattr__" "object") (T : XT K mg nm bmB newId C fI) {x t0 : Addr} {v : Value} (X : K.In s.heap) (hlim : s.heap.NoLimit) (hx : s.heap.get? x = some (excO C t0)) (hroom : A.depth < recursionLimit)
    (hq : ∀ h' tk dx, IEnd s.heap h' x C dx t0 v → R (.ok (.ret .none)) { s with heap := h', toks := tk }) :
    codeAny (model prog w) A (.call (.ref fI) ⟨[.ref x, v], []⟩) R s := by
  obtain ⟨st, qn, oc, od, kV, doc, pm, an, cdv, ct, osl, ho, hcd, ⟨p1, p2, eA⟩, ⟨q1, q2, q3, q4, eB⟩, eS⟩ := T.fn
  rw [eA, eB, eS] at ho
  refine Att.call_fn (binds := [("self", .ref x), ("step", v)]) X hlim ho hcd hroom (BindsTo.of_eq (by first | rfl | with_unfolding_all rfl)) (by first | rfl | decide | with_unfolding_all rfl) (fun s₁ IC => ?_) rfl rfl rfl
  obtain ⟨h₁, tk₁, rfl⟩ := IC.toInCall.same
  have k : ∀ b o, s.heap.get? b = some o → h₁.get? b = some o := IC.toInCall.keep
  have hn := IC.toInCall.ns
  have X₁ : K.In h₁ := X.keeps k
  have hx₁ := k _ _ hx
  show wpAny _ _ (execs _ _) _ _ _
  refine wpAny_execs_cons (plainObj_wpAny_Assign_Attribute ?_)
  refine ldC (v := v) hn (by first | rfl | with_unfolding_all rfl | kernel_rfl) (ldC (v := .ref x) hn (by first | rfl | with_unfolding_all rfl | kernel_rfl) ?_)
  refine set_plain X₁ (ox := excO C t0) (od := none) ⟨hx₁, rfl, rfl, trivial⟩ T.sa ?_
  refine store1 SF X₁ hx₁ T.ov (by unfold takerIn; rw [T.noN]; rfl) T.hdC fun h₃ tk₃ dx k₃ dn dne hx₃ hn₃ => ?_
  show wpAny _ _ (execs _ _) _ _ _
  have z : s.heap.objs.size < h₁.objs.size := hn.lt
  exact wpAny_execs_nil (hq h₃ tk₃ dx ⟨fun b o hb e => k₃ b o hb (k b o e), hx₃, Nat.le_of_lt (Nat.lt_of_lt_of_le z dn), dne, hn₃⟩)
theorem made (FB : ExcBaseFacts B newId initId bmB) (SF : StoreFacts B bmB "object.__setattr__" "object") (T : XT K mg nm bmB newId C fI) {v : Value} (X : K.In s.heap) (hlim : s.heap.NoLimit) (hroom : A.depth + 1 < recursionLimit)
    (hq : ∀ h' tk e d, Made s.heap h' e C d v → R (.ok (.ret (.ref e))) { s with heap := h', toks := tk }) :
    codeAny (model prog w) A (.call (.ref C) ⟨[v], []⟩) R s := by
  obtain ⟨nmC, N, qC, bs, bm, hdct, sn, sub, ab, col, dd, k0, k1, k2, k3, k5, hC, hT⟩ := excInit_of X T.ini
  obtain ⟨hp, g, dr, tk, os⟩ := s
  have k : ∀ b o, hp.get? b = some o → ((hp.push (kdv_tup [v])).push (excO C hp.objs.size)).get? b = some o := fun b o e => Heap.get?_push_of_some _ (Heap.get?_push_of_some _ e)
  have hget : ((hp.push (kdv_tup [v])).push (excO C hp.objs.size)).get? (hp.objs.size + 1) = some (excO C hp.objs.size) := by heap_get
  refine call_own FB hT hC (looks_findIn X T.iC) (fun self => bind_fn X self T.tC) (by rw [sizeLine_eq]; exact (by decide : 1 ≤ 16777216)) ?_
  refine init_runs (s := ⟨(hp.push (kdv_tup [v])).push (excO C hp.objs.size), g, dr, tk, os⟩) SF T (X.keeps k) (hlim.keeps k) hget ?_ fun h' tk' dx ⟨k', hx, dn, dne, hns⟩ => ?_
  · show A.depth + 1 < recursionLimit
    exact hroom
  · have old : ∀ b o, hp.get? b = some o → h'.get? b = some o := fun b o e => k' b o (Nat.ne_of_lt (Nat.lt_succ_of_lt (Heap.lt_size e))) (k b o e)
    have z : hp.objs.size + 1 + 1 ≤ dx := by
      first
        | (simpa only [Heap.size_push] using dn)
        | exact dn
        | (have q := dn; rw [Heap.size_push, Heap.size_push] at q; exact q)
    exact ⟨rfl, hq h' tk' (hp.objs.size + 1) dx ⟨old, Nat.le_succ _, ⟨_, hx⟩, Nat.le_trans (Nat.le_trans (Nat.le_succ _) (Nat.le_succ _)) z, dne, hns⟩⟩
end
end XP

end GDX
namespace GDX
open PySem PySem.Spec PyProof.Rows L2

namespace XN
theorem relO_f {v : V} {v' : Value} (r : RelV v v') (f : Str) : RelO (List.lookup f [(("line" : Str), v)]) (if f = "line" then some v' else none) := by
  by_cases hw : f = "line"
  · subst hw
    rw [if_pos rfl]
    have q : List.lookup ("line" : Str) [(("line" : Str), v)] = some v := by simp [List.lookup]
    rw [q]
    exact r
  · rw [if_neg hw]
    have qw : (f == ("line" : Str)) = false := by simpa using hw
    have q2 : List.lookup f [(("line" : Str), v)] = none := by simp [List.lookup, qw]
    rw [q2]
    trivial
section
variable {X : Cx} {C fI : Addr} {nm : Str} {bmB : List Value} {B newId initId : String}
theorem pmk {a : Expr} {ta : TA} {p pos : Pos} {k : Nat} (FB : ExcBaseFacts B newId initId bmB) (SF : StoreFacts B bmB "object.__setattr__" "object") (T : XT X.K X.mg nm bmB newId C fI) (hr : Room k X.A) (ha : PA X [a] ta) (hg : Gl X nm)
    (hdb : (nm == ("__debug__" : Str)) = false := by decide)
    (he : starEach (a :: []) X.env = (false, eval a X.env) :: starEach [] X.env := by rfl) (hpl : (backTo pos (starEach [] X.env)).any (·.1) = false := by rfl) :
    PMk X (.Call (.Name nm p) [a] [] pos) (tMkF C "line" ta) := by
  intro pins s σ H Q I h
  refine wpAny_Call_Name_kw (ld_glob I hg T.gC ?_ hdb)
  refine PySem.W.callWith_K (h₀ := X.base) I.ok.mod.kin T.kC (thn (ha.run pos pins s σ H _ I h) fun us s1 hh => ?_) he hpl
  obtain ⟨vs, H1, I1, r1, v, ev, q1⟩ := hh
  subst ev
  refine ⟨I1.kIn, ?_⟩
  cases r1 with
  | cons rv rn =>
    rename_i v' us'
    cases rn
    show wpAny _ _ (call (.ref C) [v']) _ _ _
    have hlim := I1.nolimit
    obtain ⟨hp, g, dr, tk, os⟩ := s1
    refine wpAny_call (made FB SF T I1.kIn hlim (by have := hr.dp; omega) fun h' tk' e d M => ?_)
    show MkP X pins σ Q (.ref e) ⟨h', g, dr, tk', os⟩
    obtain ⟨t1, hoe⟩ := M.obj
    have hns := M.ns
    obtain ⟨G', g1, g2⟩ := restrict h' fun b => decide (b ≠ e)
    have gk : ∀ b, b ≠ e → G'.get? b = h'.get? b := fun b hb => g1 b (decide_eq_true hb)
    have ge : G'.get? e = none := g2 e (by simp)
    have old : ∀ b o, hp.get? b = some o → G'.get? b = some o := fun b o q => (gk b (Nat.ne_of_lt (Nat.lt_of_lt_of_le (Heap.lt_size q) M.new))).trans (M.keep b o q)
    have ob : ObjOk X.prog X.w (upd H1 d (.xd [(("line" : Str), v)])) G' d (.xd [(("line" : Str), v)]) :=
      ⟨_, hns.at (fun o q => (gk d M.ne).trans q), fun f => relO_f rv f⟩
    have J : Inv X pins σ (upd H1 d (.xd [(("line" : Str), v)])) ⟨G', g, dr, tk', os⟩ := I1.laid (t' := tk') old M.big ob
    refine ⟨e, _, _, ⟨G', g, dr, tk', os⟩, _, .ref C, some d, rfl, J, fun b o q => ?_, ge, hoe, ⟨rfl, rfl⟩, rfl, rfl, ?_, rfl, I1.bare, raises_own T.exC T.tyC, q1 d (I1.hok.fresh M.big)⟩
    · by_cases hb : b = e
      · have q' : G'.get? b = some o := q
        rw [hb, ge] at q'; cases q'
      · exact (gk b hb).symm.trans q
    · rw [upd_ne (Ne.symm M.ne)]
      exact I1.hok.fresh M.new
end
end XN

namespace XI
theorem relO_f {v : V} {v' : Value} (r : RelV v v') (f : Str) : RelO (List.lookup f [(("index" : Str), v)]) (if f = "index" then some v' else none) := by
  by_cases hw : f = "index"
  · subst hw
    rw [if_pos rfl]
    have q : List.lookup ("index" : Str) [(("index" : Str), v)] = some v := by simp [List.lookup]
    rw [q]
    exact r
  · rw [if_neg hw]
    have qw : (f == ("index" : Str)) = false := by simpa using hw
    have q2 : List.lookup f [(("index" : Str), v)] = none := by simp [List.lookup, qw]
    rw [q2]
    trivial
section
variable {X : Cx} {C fI : Addr} {nm : Str} {bmB : List Value} {B newId initId : String}
theorem pmk {a : Expr} {ta : TA} {p pos : Pos} {k : Nat} (FB : ExcBaseFacts B newId initId bmB) (SF : StoreFacts B bmB "object.__setattr__" "object") (T : XT X.K X.mg nm bmB newId C fI) (hr : Room k X.A) (ha : PA X [a] ta) (hg : Gl X nm)
    (hdb : (nm == ("__debug__" : Str)) = false := by decide)
    (he : starEach (a :: []) X.env = (false, eval a X.env) :: starEach [] X.env := by rfl) (hpl : (backTo pos (starEach [] X.env)).any (·.1) = false := by rfl) :
    PMk X (.Call (.Name nm p) [a] [] pos) (tMkF C "index" ta) := by
  intro pins s σ H Q I h
  refine wpAny_Call_Name_kw (ld_glob I hg T.gC ?_ hdb)
  refine PySem.W.callWith_K (h₀ := X.base) I.ok.mod.kin T.kC (thn (ha.run pos pins s σ H _ I h) fun us s1 hh => ?_) he hpl
  obtain ⟨vs, H1, I1, r1, v, ev, q1⟩ := hh
  subst ev
  refine ⟨I1.kIn, ?_⟩
  cases r1 with
  | cons rv rn =>
    rename_i v' us'
    cases rn
    show wpAny _ _ (call (.ref C) [v']) _ _ _
    have hlim := I1.nolimit
    obtain ⟨hp, g, dr, tk, os⟩ := s1
    refine wpAny_call (made FB SF T I1.kIn hlim (by have := hr.dp; omega) fun h' tk' e d M => ?_)
    show MkP X pins σ Q (.ref e) ⟨h', g, dr, tk', os⟩
    obtain ⟨t1, hoe⟩ := M.obj
    have hns := M.ns
    obtain ⟨G', g1, g2⟩ := restrict h' fun b => decide (b ≠ e)
    have gk : ∀ b, b ≠ e → G'.get? b = h'.get? b := fun b hb => g1 b (decide_eq_true hb)
    have ge : G'.get? e = none := g2 e (by simp)
    have old : ∀ b o, hp.get? b = some o → G'.get? b = some o := fun b o q => (gk b (Nat.ne_of_lt (Nat.lt_of_lt_of_le (Heap.lt_size q) M.new))).trans (M.keep b o q)
    have ob : ObjOk X.prog X.w (upd H1 d (.xd [(("index" : Str), v)])) G' d (.xd [(("index" : Str), v)]) :=
      ⟨_, hns.at (fun o q => (gk d M.ne).trans q), fun f => relO_f rv f⟩
    have J : Inv X pins σ (upd H1 d (.xd [(("index" : Str), v)])) ⟨G', g, dr, tk', os⟩ := I1.laid (t' := tk') old M.big ob
    refine ⟨e, _, _, ⟨G', g, dr, tk', os⟩, _, .ref C, some d, rfl, J, fun b o q => ?_, ge, hoe, ⟨rfl, rfl⟩, rfl, rfl, ?_, rfl, I1.bare, raises_own T.exC T.tyC, q1 d (I1.hok.fresh M.big)⟩
    · by_cases hb : b = e
      · have q' : G'.get? b = some o := q
        rw [hb, ge] at q'; cases q'
      · exact (gk b hb).symm.trans q
    · rw [upd_ne (Ne.symm M.ne)]
      exact I1.hok.fresh M.new
end
end XI

namespace XP
theorem relO_f {v : V} {v' : Value} (r : RelV v v') (f : Str) : RelO (List.lookup f [(("step" : Str), v)]) (if f = "step" then some v' else none) := by
  by_cases hw : f = "step"
  · subst hw
    rw [if_pos rfl]
    have q : List.lookup ("step" : Str) [(("step" : Str), v)] = some v := by simp [List.lookup]
    rw [q]
    exact r
  · rw [if_neg hw]
    have qw : (f == ("step" : Str)) = false := by simpa using hw
    have q2 : List.lookup f [(("step" : Str), v)] = none := by simp [List.lookup, qw]
    rw [q2]
    trivial
section
variable {X : Cx} {C fI : Addr} {nm : Str} {bmB : List Value} {B newId initId : String}
theorem pmk {a : Expr} {ta : TA} {p pos : Pos} {k : Nat} (FB : ExcBaseFacts B newId initId bmB) (SF : StoreFacts B bmB "object.__setattr__" "object") (T : XT X.K X.mg nm bmB newId C fI) (hr : Room k X.A) (ha : PA X [a] ta) (hg : Gl X nm)
    (hdb : (nm == ("__debug__" : Str)) = false := by decide)
    (he : starEach (a :: []) X.env = (false, eval a X.env) :: starEach [] X.env := by rfl) (hpl : (backTo pos (starEach [] X.env)).any (·.1) = false := by rfl) :
    PMk X (.Call (.Name nm p) [a] [] pos) (tMkF C "step" ta) := by
  intro pins s σ H Q I h
  refine wpAny_Call_Name_kw (ld_glob I hg T.gC ?_ hdb)
  refine PySem.W.callWith_K (h₀ := X.base) I.ok.mod.kin T.kC (thn (ha.run pos pins s σ H _ I h) fun us s1 hh => ?_) he hpl
  obtain ⟨vs, H1, I1, r1, v, ev, q1⟩ := hh
  subst ev
  refine ⟨I1.kIn, ?_⟩
  cases r1 with
  | cons rv rn =>
    rename_i v' us'
    cases rn
    show wpAny _ _ (call (.ref C) [v']) _ _ _
    have hlim := I1.nolimit
    obtain ⟨hp, g, dr, tk, os⟩ := s1
    refine wpAny_call (made FB SF T I1.kIn hlim (by have := hr.dp; omega) fun h' tk' e d M => ?_)
    show MkP X pins σ Q (.ref e) ⟨h', g, dr, tk', os⟩
    obtain ⟨t1, hoe⟩ := M.obj
    have hns := M.ns
    obtain ⟨G', g1, g2⟩ := restrict h' fun b => decide (b ≠ e)
    have gk : ∀ b, b ≠ e → G'.get? b = h'.get? b := fun b hb => g1 b (decide_eq_true hb)
    have ge : G'.get? e = none := g2 e (by simp)
    have old : ∀ b o, hp.get? b = some o → G'.get? b = some o := fun b o q => (gk b (Nat.ne_of_lt (Nat.lt_of_lt_of_le (Heap.lt_size q) M.new))).trans (M.keep b o q)
    have ob : ObjOk X.prog X.w (upd H1 d (.xd [(("step" : Str), v)])) G' d (.xd [(("step" : Str), v)]) :=
      ⟨_, hns.at (fun o q => (gk d M.ne).trans q), fun f => relO_f rv f⟩
    have J : Inv X pins σ (upd H1 d (.xd [(("step" : Str), v)])) ⟨G', g, dr, tk', os⟩ := I1.laid (t' := tk') old M.big ob
    refine ⟨e, _, _, ⟨G', g, dr, tk', os⟩, _, .ref C, some d, rfl, J, fun b o q => ?_, ge, hoe, ⟨rfl, rfl⟩, rfl, rfl, ?_, rfl, I1.bare, raises_own T.exC T.tyC, q1 d (I1.hok.fresh M.big)⟩
    · by_cases hb : b = e
      · have q' : G'.get? b = some o := q
        rw [hb, ge] at q'; cases q'
      · exact (gk b hb).symm.trans q
    · rw [upd_ne (Ne.symm M.ne)]
      exact I1.hok.fresh M.new
end
end XP
end GDX
namespace GD
open PySem PySem.Spec PyProof.Rows L2 GDX
section
variable {X : Cx} {W : WX} {a : Expr} {ta : TA} {C fI : Addr} {nm : Str} {p pos pos2 : Pos} {k : Nat}
abbrev mroVE : List Value := [.type "ValueError", .type "Exception", .type "BaseException", .type "object"]
abbrev mroRE : List Value := [.type "RuntimeError", .type "Exception", .type "BaseException", .type "object"]
theorem tail_VE : PySem.W.excTail mroVE mroVE = true := by rfl
theorem tail_RE : PySem.W.excTail mroRE mroRE = true := by rfl
theorem ps_rzVlimit (T : XL.XT X.K X.mg nm mroVE "ValueError.__new__" C fI) (hc : X.calm = true) (hr : Room k X.A) (tk : Takes X W) (ha : PA X [a] ta) (hg : Gl X nm) (hdb : (nm == ("__debug__" : Str)) = false := by decide)
    (he : starEach (a :: []) X.env = (false, eval a X.env) :: starEach [] X.env := by rfl) (hpl : (backTo pos (starEach [] X.env)).any (·.1) = false := by rfl) :
    PS X (.Raise (some (.Call (.Name nm p) [a] [] pos)) none pos2) (tRz C "limit" ta W) := ps_raise hc tk (XL.pmk PySem.F.excBase_ValueError PySem.F.store_ValueError T hr ha hg hdb he hpl)
theorem ps_rzVline (T : XN.XT X.K X.mg nm mroVE "ValueError.__new__" C fI) (hc : X.calm = true) (hr : Room k X.A) (tk : Takes X W) (ha : PA X [a] ta) (hg : Gl X nm) (hdb : (nm == ("__debug__" : Str)) = false := by decide)
    (he : starEach (a :: []) X.env = (false, eval a X.env) :: starEach [] X.env := by rfl) (hpl : (backTo pos (starEach [] X.env)).any (·.1) = false := by rfl) :
    PS X (.Raise (some (.Call (.Name nm p) [a] [] pos)) none pos2) (tRz C "line" ta W) := ps_raise hc tk (XN.pmk PySem.F.excBase_ValueError PySem.F.store_ValueError T hr ha hg hdb he hpl)
theorem ps_rzVindex (T : XI.XT X.K X.mg nm mroVE "ValueError.__new__" C fI) (hc : X.calm = true) (hr : Room k X.A) (tk : Takes X W) (ha : PA X [a] ta) (hg : Gl X nm) (hdb : (nm == ("__debug__" : Str)) = false := by decide)
    (he : starEach (a :: []) X.env = (false, eval a X.env) :: starEach [] X.env := by rfl) (hpl : (backTo pos (starEach [] X.env)).any (·.1) = false := by rfl) :
    PS X (.Raise (some (.Call (.Name nm p) [a] [] pos)) none pos2) (tRz C "index" ta W) := ps_raise hc tk (XI.pmk PySem.F.excBase_ValueError PySem.F.store_ValueError T hr ha hg hdb he hpl)
theorem ps_rzRstep (T : XP.XT X.K X.mg nm mroRE "RuntimeError.__new__" C fI) (hc : X.calm = true) (hr : Room k X.A) (tk : Takes X W) (ha : PA X [a] ta) (hg : Gl X nm) (hdb : (nm == ("__debug__" : Str)) = false := by decide)
    (he : starEach (a :: []) X.env = (false, eval a X.env) :: starEach [] X.env := by rfl) (hpl : (backTo pos (starEach [] X.env)).any (·.1) = false := by rfl) :
    PS X (.Raise (some (.Call (.Name nm p) [a] [] pos)) none pos2) (tRz C "step" ta W) := ps_raise hc tk (XP.pmk PySem.F.excBase_RuntimeError PySem.F.store_RuntimeError T hr ha hg hdb he hpl)
end
end GD

set_option maxHeartbeats 2000000
/-! statements that may raise, with what they keep; raising calls as expressions; any try; isinstance with a tuple of own classes -/
namespace GD
open PySem PySem.Spec PyProof.Rows L2 GDX
/-! ### statements -/
def YEnd (K : PySem.W.Frag) (F : Frm) (env : En) (σ : L2.St) (H : Hp) (env' : En) (W : WX) (Dn : Ends) : FlX → Prop
  | .fl f => SEnd K F env σ H env' Dn f
  | .rs nm f d => ∀ (C : Addr) (v : V) (σ' : L2.St) (H' : Hp) (dx : Addr), PySem.W.nsIn K mainGlobals nm = some (some (.ref C)) → StOk K F T0 H' env' σ' → Stq env σ H env' σ' H' → Rp K (Ow F T0 env' σ') H' v d → H' dx = none →
    W (.ref C) (some dx) σ' (upd H' dx (.xd [(f, v)]))
def ISY (K : PySem.W.Frag) (t : WX → TS) (f : EvSX) : Prop := ∀ F env σ H fl env', StOk K F T0 H env σ → f env = some (fl, env') → ∀ (W : WX) (Dn : Ends), YEnd K F env σ H env' W Dn fl → t W Dn σ H
section
variable {K : PySem.W.Frag} {t u : WX → TS} {f g : EvSX}
theorem YEnd.pre {F : Frm} {env env1 env' : En} {σ σ1 : L2.St} {H H1 : Hp} {W : WX} {Dn : Ends} {fl : FlX} (h : YEnd K F env σ H env' W Dn fl) (b : Stq env σ H env1 σ1 H1) : YEnd K F env1 σ1 H1 env' W Dn fl := by
  cases fl with
  | fl f => exact SEnd.pre h b
  | rs nm f d => exact fun C v σ' H' dx hC S q r n => h C v σ' H' dx hC S (b.trans q) r n
theorem isx_y (h : ISY K t f) : ISX K t f := by
  intro F env σ H fl env' S e W Dn k
  refine h F env σ H fl env' S e W Dn ?_
  cases fl with
  | fl f => exact k
  | rs nm f d => exact fun C v σ' H' dx hC S q r n => k C v σ' H' dx hC S r n
theorem isy_of {t : TS} {f : EvS} (h : IS K t f) : ISY K (fun _ => t) (sOf f) := by
  intro F env σ H fl env' S e W Dn k
  simp only [sOf, Option.map_eq_some_iff] at e
  obtain ⟨⟨f0, e1⟩, a1, a2⟩ := e
  cases a2
  exact h F env σ H f0 _ S a1 Dn k
theorem isy_seq (h1 : ISY K t f) (h2 : ISY K u g) : ISY K (fun W => tSeq (t W) (u W)) (sxSeq f g) := by
  intro F env σ H fl env' S e W Dn k
  simp only [sxSeq, Option.bind_eq_some_iff] at e
  obtain ⟨⟨f0, e1⟩, a1, a2⟩ := e
  match f0, a2 with
  | .fl .nx, a2 => exact h1 F env σ H _ e1 S a1 W _ fun σ' H' S' q => h2 F e1 σ' H' fl env' S' a2 W Dn (k.pre q)
  | .fl .bk, a2 => cases a2; exact h1 F env σ H _ e1 S a1 W _ k
  | .fl .ct, a2 => cases a2; exact h1 F env σ H _ e1 S a1 W _ k
  | .fl (.rt r), a2 => cases a2; exact h1 F env σ H _ e1 S a1 W _ k
  | .rs nm f d, a2 => cases a2; exact h1 F env σ H _ e1 S a1 W _ k
theorem isy_if {c : TT} {fc : EvT} (hc : IT K c fc) (h1 : ISY K t f) (h2 : ISY K u g) : ISY K (fun W => tIfS c (t W) (u W)) (sxIf fc f g) := by
  intro F env σ H fl env' S e W Dn k
  simp only [sxIf, Option.bind_eq_some_iff] at e
  obtain ⟨⟨b, e1⟩, a1, a2⟩ := e
  refine hc F T0 env σ H b e1 S a1 _ fun H1 S1 s1 => ?_
  cases b with
  | true =>
    rw [if_pos rfl] at a2
    rw [if_pos rfl]
    exact h1 F e1 σ H1 fl env' S1 a2 W Dn (k.pre s1.q)
  | false =>
    rw [if_neg Bool.false_ne_true] at a2
    rw [if_neg Bool.false_ne_true]
    exact h2 F e1 σ H1 fl env' S1 a2 W Dn (k.pre s1.q)
theorem isy_rz {C : Addr} {nm fd : Str} {ta : TA} {fa : EvA} (hC : PySem.W.nsIn K mainGlobals nm = some (some (.ref C))) (h : IA K ta fa) : ISY K (tRz C fd ta) (sxRz nm fd fa) := by
  intro F env σ H fl env' S e W Dn k
  simp only [sxRz, Option.bind_eq_some_iff] at e
  obtain ⟨⟨l, e1⟩, a1, a2⟩ := e
  match l, a2 with
  | [r], a2 =>
    simp only [Option.map_eq_some_iff] at a2
    obtain ⟨d, a3, a4⟩ := a2
    cases a4
    refine h F T0 env σ H _ _ S a1 _ fun vs H1 S1 s1 rv => ?_
    match vs, rv with
    | [v], ⟨rv, _⟩ => exact ⟨v, rfl, fun dx nd => k C v σ H1 dx hC S1 s1.q (rk_ok S1 rv a3) nd⟩
def forX (tg : D → En → Option En) (f : EvSX) : List D → EvSX
  | [], env => some (.fl .nx, env)
  | d :: ds, env => (tg d env).bind fun e => (f e).bind fun p => match p.1 with
    | .fl .nx => forX tg f ds p.2
    | .fl .ct => forX tg f ds p.2
    | .fl .bk => some (.fl .nx, p.2)
    | r => some (r, p.2)
def sxFor (fw : EvW) (tg : D → En → Option En) (f : EvSX) : EvSX := fun env => (fw env).bind fun p => forX tg f p.1 p.2
theorem isy_for {wi : TI} {fw : EvW} {js : List Nat} {gg : TG} {ff : D → En → Option En} (hw : IW K wi fw) (hg : IG K js gg ff) (hb : ISY K t f) : ISY K (fun W => tFor wi gg (t W)) (sxFor fw ff f) := by
  intro F env σ H fl env' S e W Dn k
  simp only [sxFor, Option.bind_eq_some_iff] at e
  obtain ⟨⟨items, e1⟩, a1, a2⟩ := e
  refine hw F T0 env σ H items e1 S a1 _ fun J H1 S1 s1 jo => ?_
  have k1 := k.pre s1.q
  clear k s1 a1 S
  refine ⟨fun i m σ' H' => ∃ e', StOk K F T0 H' e' σ' ∧ Stq e1 σ H1 e' σ' H' ∧ m = items.length - i ∧ i ≤ items.length ∧ forX ff f (items.drop i) e' = some (fl, env'), ⟨_, e1, S1, Stq.refl, rfl, Nat.zero_le _, by simpa using a2⟩, ?_⟩
  rintro i m σ' H' ⟨e', S', st, rfl, hi, he⟩
  obtain ⟨j1, j2⟩ := jo (Ow F T0 e' σ') H' (fun a o q n z => by
      rcases z with z | z | z
      · exact n (.inl z)
      · exact z
      · rcases st.wr a z with z | z
        · exact n (.inr (.inr z))
        · rw [q] at z; cases z) (fun a o n q => st.ext.same a o q fun z => n (.inr (.inr z))) (fun a h => S'.olive h)
  by_cases hlt : i < items.length
  · have gi : items[i]? = some items[i] := List.getElem?_eq_getElem hlt
    obtain ⟨go, yl⟩ := j1 i _ gi
    rw [List.drop_eq_getElem_cons hlt] at he
    simp only [forX, Option.bind_eq_some_iff] at he
    obtain ⟨e2, b1, ⟨fl2, e3⟩, b2, b3⟩ := he
    refine .inr ⟨go, fun σ2 H2 => ∃ e', StOk K F T0 H2 e' σ2 ∧ Stq e1 σ H1 e' σ2 H2 ∧ i + 1 ≤ items.length ∧ forX ff f (items.drop (i + 1)) e' = some (fl, env'), ?_, ?_⟩
    · rintro σ2 H2 ⟨e', c1, c2, c3, c4⟩
      exact ⟨items.length - (i + 1), by omega, e', c1, c2, rfl, c3, c4⟩
    · intro x H2 hy
      obtain ⟨x2, rx⟩ := yl x H2 hy
      have S2 := S'.lay x2
      refine hg F T0 e' σ' H2 x _ e2 S2 rx b1 _ fun σ2 S3 q3 _ _ _ => ?_
      have q4 : Stq e1 σ H1 e2 σ2 H2 := (st.trans (Stp.lay x2).q).trans q3
      refine hb F e2 σ2 H2 fl2 e3 S3 b2 W _ ?_
      match fl2, b3 with
      | .fl .nx, b3 => exact fun σ3 H3 S4 q5 => ⟨e3, S4, q4.trans q5, hlt, b3⟩
      | .fl .ct, b3 => exact fun σ3 H3 S4 q5 => ⟨e3, S4, q4.trans q5, hlt, b3⟩
      | .fl .bk, b3 => cases b3; exact fun σ3 H3 S4 q5 => k1 σ3 H3 S4 (q4.trans q5)
      | .fl (.rt r), b3 => cases b3; exact k1
      | .rs nm f d, b3 => cases b3; exact k1.pre q4
  · have ei : i = items.length := by omega
    subst ei
    rw [List.drop_length] at he
    cases he
    exact .inl ⟨j2 _ (Nat.le_refl _), k1 σ' H' S' st⟩
end
/-! ### expressions that may raise -/
inductive ER where
  | v (d : D)
  | rs (nm f : Str) (d : D)
abbrev EvER := En → Option (ER × En)
def EREnd (K : PySem.W.Frag) (F : Frm) (env : En) (σ : L2.St) (H : Hp) (env' : En) (W : WX) (Q : VK) : ER → Prop
  | .v d => ∀ x H', StOk K F T0 H' env' σ → Stp env σ H env' H' → Rp K (Ow F T0 env' σ) H' x d → Q x H'
  | .rs nm f d => ∀ (C : Addr) (v : V) (H' : Hp) (dx : Addr), PySem.W.nsIn K mainGlobals nm = some (some (.ref C)) → StOk K F T0 H' env' σ → Stp env σ H env' H' → Rp K (Ow F T0 env' σ) H' v d → H' dx = none → W (.ref C) (some dx) σ (upd H' dx (.xd [(f, v)]))
def IER (K : PySem.W.Frag) (t : WX → TE) (f : EvER) : Prop := ∀ F env σ H r env', StOk K F T0 H env σ → f env = some (r, env') → ∀ (W : WX) (Q : VK), EREnd K F env σ H env' W Q r → t W σ H Q
def xCallX (M : FnX) (gR : List R → List R → List R) (fa fk : EvA) : EvER := fun env => (fa env).bind fun p => (fk p.2).bind fun q => (rkA q.2 (gR p.1 q.1)).bind fun ds => (M ds).map fun rx => (match rx with
  | .ret d => ER.v d
  | .rs nm f d => ER.rs nm f d, q.2)
/-- a raising call, its arguments in their places -/
def tCXS (sp : Sp) (dvs : List V) (W : WX) (t : TA) : TE := fun σ H Q => t σ H fun vs H1 => sp (vs ++ dvs) H1 Q (WE W σ)
section
variable {K : PySem.W.Frag} {k : Nat} {M : FnX} {gV : List V → List V → List V} {gR : List R → List R → List R} {ta tk : TA} {fa fk : EvA}
theorem rvlen {F : Frm} {H : Hp} {env : En} {σ : L2.St} : ∀ {vs : List V} {l : List R}, RvAll K F T0 H env σ vs l → vs.length = l.length := RvAll.len
theorem spX_in {F : Frm} {env e2 : En} {σ : L2.St} {H H2 : Hp} {vs : List V} {l : List R} {ds : List D} {rx : RX} {W : WX} {Q : VK} (S2 : StOk K F T0 H2 e2 σ) (st : Stp env σ H e2 H2) (rr : RvAll K F T0 H2 e2 σ vs l) (len : l.length = k) (a3 : rkA e2 l = some ds) (a4 : M ds = some rx)
    (kk : EREnd K F env σ H e2 W Q (match rx with | .ret d => ER.v d | .rs nm f d => ER.rs nm f d)) : spX K k M vs H2 Q (WE W σ) := by
  have rp := rkA_ok S2 rr a3
  refine ⟨Ow F T0 e2 σ, ds, rx, rr.len.trans len, fun a h => S2.olive h, rp, a4, fun d hr v H3 x rd => ?_, fun nm f d hr C v H3 dx hC x nd rd => ?_⟩
  · subst hr
    exact kk v H3 (S2.lay x) (st.trans (Stp.lay x)) rd
  · subst hr
    exact kk C v H3 dx hC (S2.lay x) (st.trans (Stp.lay x)) rd nd
theorem ier_callK (ha : IA K ta fa) (hk : IA K tk fk)
    (hp : ∀ {F : Frm} {T : Addr → Prop} {H : Hp} {env : En} {σ : L2.St} {vs us : List V} {l w : List R}, RvAll K F T H env σ vs l → RvAll K F T H env σ us w → RvAll K F T H env σ (gV vs us) (gR l w))
    (hlen : ∀ env l e1 w e2, fa env = some (l, e1) → fk e1 = some (w, e2) → (gR l w).length = k) : IER K (fun W => tCKS (spX K k M) gV W ta tk) (xCallX M gR fa fk) := by
  intro F env σ H r env' S e W Q kk
  simp only [xCallX, Option.bind_eq_some_iff, Option.map_eq_some_iff] at e
  obtain ⟨⟨l, e1⟩, a1, ⟨w, e2⟩, a2, ds, a3, rx, a4, a5⟩ := e
  cases a5
  refine ha F T0 env σ H l e1 S a1 _ fun vs H1 S1 s1 rv => ?_
  refine hk F T0 e1 σ H1 w e2 S1 a2 _ fun us H2 S2 s2 rw2 => ?_
  exact spX_in S2 (s1.trans s2) (hp (rv.stp s2) rw2) (hlen _ _ _ _ _ a1 a2) a3 a4 (by cases rx <;> exact kk)
def gR0 (l _w : List R) : List R := l
theorem ier_call (ha : IA K ta fa) (hlen : lenOk k fa) : IER K (fun W => tCXS (spX K k M) [] W ta) (xCallX M gR0 fa aNil) := by
  intro F env σ H r env' S e W Q kk
  simp only [xCallX, aNil, gR0, Option.bind_eq_some_iff, Option.map_eq_some_iff] at e
  obtain ⟨⟨l, e1⟩, a1, ⟨w, e2⟩, a2, ds, a3, rx, a4, a5⟩ := e
  cases a2
  cases a5
  refine ha F T0 env σ H l e1 S a1 _ fun vs H1 S1 s1 rv => ?_
  rw [List.append_nil]
  exact spX_in S1 s1 rv (hlen _ _ _ a1) a3 a4 (by cases rx <;> exact kk)
end
/-! ### raising calls as statements -/
section
variable {K : PySem.W.Frag} {te : WX → TE} {fe : EvER}
def sxDrop (fe : EvER) : EvSX := fun env => (fe env).map fun p => (match p.1 with
  | .v _ => FlX.fl .nx
  | .rs nm f d => .rs nm f d, p.2)
theorem isy_drop (h : IER K te fe) : ISY K (fun W => tDrop (te W)) (sxDrop fe) := by
  intro F env σ H fl env' S e W Dn k
  simp only [sxDrop, Option.map_eq_some_iff] at e
  obtain ⟨⟨r, e1⟩, a1, a2⟩ := e
  cases a2
  refine h F env σ H r e1 S a1 W _ ?_
  cases r with
  | v d => exact fun x H' S' st rx => k σ H' S' st.q
  | rs nm f d => exact fun C v H' dx hC S' st rv nd => k C v σ H' dx hC S' st.q rv nd
def sxSet (j : Nat) (fe : EvER) : EvSX := fun env => (fe env).map fun p => match p.1 with
  | .v d => (FlX.fl .nx, p.2.set j (some (.shr d)))
  | .rs nm f d => (.rs nm f d, p.2)
theorem isy_set {j : Nat} (h : IER K te fe) : ISY K (fun W => tAsg (te W) (gName j)) (sxSet j fe) := by
  intro F env σ H fl env' S e W Dn k
  simp only [sxSet, Option.map_eq_some_iff] at e
  obtain ⟨⟨r, e1⟩, a1, a2⟩ := e
  refine h F env σ H r e1 S a1 W _ ?_
  cases r with
  | v d => cases a2; exact fun x H' S' st rx => k _ H' (S'.setS rx) (st.q.trans S'.setS_q)
  | rs nm f d => cases a2; exact fun C v H' dx hC S' st rv nd => k C v σ H' dx hC S' st.q rv nd
def sxRet (fe : EvER) : EvSX := fun env => (fe env).map fun p => (match p.1 with
  | .v d => FlX.fl (.rt (.val d))
  | .rs nm f d => .rs nm f d, p.2)
theorem isy_ret (h : IER K te fe) : ISY K (fun W => tRet (te W)) (sxRet fe) := by
  intro F env σ H fl env' S e W Dn k
  simp only [sxRet, Option.map_eq_some_iff] at e
  obtain ⟨⟨r, e1⟩, a1, a2⟩ := e
  cases a2
  refine h F env σ H r e1 S a1 W _ ?_
  cases r with
  | v d => exact fun x H' S' st rx => k x σ H' ⟨S', rx⟩
  | rs nm f d => exact fun C v H' dx hC S' st rv nd => k C v σ H' dx hC S' st.q rv nd
/-- return [f(..)] -/
def sxRetL (fe : EvER) : EvSX := fun env => (fe env).map fun p => (match p.1 with
  | .v d => FlX.fl (.rt (.val (.list [d])))
  | .rs nm f d => .rs nm f d, p.2)
theorem isy_retL (h : IER K te fe) : ISY K (fun W => tRet (tLst (tCons (te W) tNil))) (sxRetL fe) := by
  intro F env σ H fl env' S e W Dn k
  simp only [sxRetL, Option.map_eq_some_iff] at e
  obtain ⟨⟨r, e1⟩, a1, a2⟩ := e
  cases a2
  refine h F env σ H r e1 S a1 W _ ?_
  cases r with
  | v d =>
    intro x H' S' st rx
    refine ⟨by show 1 ≤ sizeLine; rw [sizeLine_eq]; decide, fun p np => ?_⟩
    have y : Ext (fun _ => False) H' (upd H' p (.lst [x])) := Ext.new np
    have S2 := S'.lay y
    exact k (.ref p) σ _ ⟨S2, .lst upd_same (S'.fresh np) (.one (rx.tr (fun _ _ _ n => n) fun b o _ q => y.same b o q id))⟩
  | rs nm f d => exact fun C v H' dx hC S' st rv nd => k C v σ H' dx hC S' st.q rv nd
end
/-! ### try -/
def sTryG (fb : EvSX) (nms : List Str) (i : Nat) (fs : EvS) : EvS := fun env => (fb env).bind fun p => match p.1 with
  | .fl f => some (f, p.2)
  | .rs nm f d => if nms.contains nm = true then (fs (p.2.set i (some (.shr (excD nm f d))))).bind fun r => match r.1 with
    | .nx => some (.nx, r.2.set i none)
    | .rt (.val d) => some (.rt (.val d), r.2.set i none)
    | _ => none
    else none
theorem is_tryG {K : PySem.W.Frag} {cs : List Value} {i : Nat} {nms : List Str} {tb : WX → TS} {fb : EvSX} {ts : TS} {fs : EvS} (hb : ISY K tb fb) (hs : IS K ts fs)
    (hc : ∀ nm C, nms.contains nm = true → PySem.W.nsIn K mainGlobals nm = some (some (.ref C)) → PySem.W.exmAny K (.ref C) cs = some true) :
    IS K (fun D σ H => tb (wTrN K cs i ts D) D σ H) (sTryG fb nms i fs) := by
  intro F env σ H fl env' S e Dn hD
  simp only [sTryG, Option.bind_eq_some_iff] at e
  obtain ⟨⟨fl0, e2⟩, a1, a5⟩ := e
  refine hb F env σ H fl0 e2 S a1 _ Dn ?_
  cases fl0 with
  | fl f0 => cases a5; exact hD
  | rs nm f d =>
    intro C v σ2 H3 dx hC S3 st0 rd nd
    dsimp only at a5
    split at a5
    case isFalse => cases a5
    case isTrue hn =>
    simp only [Option.bind_eq_some_iff] at a5
    obtain ⟨⟨fl1, e3⟩, a6, a7⟩ := a5
    refine ⟨hc nm C hn hC, fun a na => ?_⟩
    have y1 : Ext (fun _ => False) H3 (upd H3 dx (.xd [(f, v)])) := Ext.new nd
    have y2 : Ext (fun _ => False) (upd H3 dx (.xd [(f, v)])) (upd (upd H3 dx (.xd [(f, v)])) a (XO (.ref C) (some dx) a)) := Ext.new na
    have S4 := S3.lay y1
    have S5 := S4.lay y2
    have kp := fun b o (q : H3 b = some o) => y2.same b o (y1.same b o q id) id
    have hdx : (upd (upd H3 dx (.xd [(f, v)])) a (XO (.ref C) (some dx) a)) dx = some (.xd [(f, v)]) := y2.same dx _ upd_same id
    have na' : ¬ Ow F T0 e2 σ2 a := fun q => S4.olive q na
    have nd' : ¬ Ow F T0 e2 σ2 dx := fun q => S3.olive q nd
    have hexc : Rp K (Ow F T0 e2 σ2) (upd (upd H3 dx (.xd [(f, v)])) a (XO (.ref C) (some dx) a)) (.ref a) (excD nm f d) := .exc hC upd_same na' hdx nd' (rd.tr (fun _ _ _ n => n) fun b o _ q => kp b o q)
    generalize hH5 : upd (upd H3 dx (.xd [(f, v)])) a (XO (.ref C) (some dx) a) = H5 at *
    have st5 : Stq env σ H e2 σ2 H5 := (st0.trans (Stp.lay y1).q).trans (Stp.lay y2).q
    refine hs F _ _ H5 fl1 e3 (S5.setS hexc) a6 _ ?_
    have fin : ∀ {T' : Addr → Prop} {σ' : L2.St} {H' : Hp}, StOk K F T' H' e3 σ' → StOk K F T' H' (e3.set i none) (σ'.set i none) := fun S' => S'.re (by rw [List.length_set, List.length_set]; exact S'.len) (gone_re i)
    match fl1, a7 with
    | .nx, a7 =>
      cases a7
      exact fun σ' H' S' q => hD _ H' (fin S') ((st5.trans S5.setS_q).trans (q.trans ⟨Ext.refl, fun b hb => .inl (wr_re (gone_re i) b hb)⟩))
    | .rt (.val r), a7 =>
      cases a7
      exact fun v' σ' H' hr => hD v' (σ'.set i none) H' ⟨fin hr.1, hr.2.anti fun b hb => hb.imp id (.imp id (wr_re (gone_re i) b))⟩
    | .rt (.new m), a7 => cases a7
    | .bk, a7 => cases a7
    | .ct, a7 => cases a7
end GD

set_option maxHeartbeats 2000000
/-! raising calls with arguments in their places; isinstance with a tuple of own classes; equations -/
namespace GD
open PySem PySem.Spec PyProof.Rows L2 GDX
section
variable {X : Cx} {W : WX} {k : Nat} {f : Addr} {fd : FuncData} {ps : List Str} {sp : Sp} {dvs : List V} {ds : List Value} {x : Str} {p pos : Pos} {e : Expr} {es : List Expr} {t : TA}
theorem run_gXS {pins : List (Addr × Obj)} {σ : L2.St} {H : Hp} {s : Shared} {Q : VK} {us : List Value} {vs : List V} (F : FnG X.prog X.w X.K X.mg X.base (L2.CX X.prog X.w) k f fd ps sp) (hgd : X.A.guards = some []) (hr : Room k X.A) (hb : Binds X.K fd ps ds) (hd : Vals dvs ds)
    (tkW : Takes X W) (I : Inv X pins σ H s) (r : Vals vs us) (h : sp (vs ++ dvs) H Q (WE W σ)) : wpAny (model X.prog X.w) X.A (call (.ref f) us) (EP X pins σ Q) X.xe s := by
  have r2 : Vals (vs ++ dvs) (us ++ ds) := Vals.append r hd
  have hl : (us ++ ds).length = ps.length := (Vals.length r2).symm.trans (F.len _ _ _ _ h)
  refine wpAny_call (codeAny_mono (F.run X.A X.stack s H ⟨us, []⟩ (us ++ ds) (vs ++ dvs) Q (WE W σ) hgd hr I.env0 (hb s us I.kIn hl) r2 h) fun r s' hq => ?_)
  match r, hq with
  | .error er, hq => exact passAt tkW σ pins H s er s' I hq
  | .ok (.ret u), hq => exact I.after hq
  | .ok .next, hq => exact (show False from hq).elim
  | .ok .brk, hq => exact (show False from hq).elim
  | .ok .cont, hq => exact (show False from hq).elim
theorem pe_callXS (F : FnG X.prog X.w X.K X.mg X.base (L2.CX X.prog X.w) k f fd ps sp) (hgd : X.A.guards = some []) (hr : Room k X.A) (hg : Gl X x)
    (hm : X.mg x = some (.ref f)) (hk : PySem.W.keepIn X.K (.ref f) = true) (hb : Binds X.K fd ps ds) (hd : Vals dvs ds) (tkW : Takes X W)
    (ha : PA X (e :: es) t) (hdb : (x == ("__debug__" : Str)) = false := by decide)
    (he : starEach (e :: es) X.env = (false, eval e X.env) :: starEach es X.env := by rfl)
    (hpl : (backTo pos (starEach es X.env)).any (·.1) = false := by rfl) :
    PE X (.Call (.Name x p) (e :: es) [] pos) (tCXS sp dvs W t) := by
  constructor
  intro pins s σ H Q I h
  refine wpAny_Call_Name_kw (ld_glob I hg hm ?_ hdb)
  refine PySem.W.callWith_K (h₀ := X.base) I.ok.mod.kin hk (thn (ha.run pos pins s σ H _ I h) ?_) he hpl
  rintro us s1 ⟨vs, H1, I1, r, q⟩
  exact ⟨I1.kIn, run_gXS F hgd hr hb hd tkW I1 r q⟩
/-- isinstance(e, (C1, C2, ..)), own classes -/
def rIsXT (K : PySem.W.Frag) : List V → Hp → VK → Prop := fun xs H Q => ∃ (a C dx tp : Addr) (fs : List (Str × V)) (cs : List Addr) (b : Bool), xs = [.ref a, .ref tp] ∧ H a = some (XO (.ref C) (some dx) a) ∧ H dx = some (.xd fs) ∧ H tp = some (.tup (cs.map V.ref)) ∧ ExcC K C ∧
  PySem.W.kitAny K (.ref C) (cs.map Value.ref) = some b ∧ Q (.bl b) H
theorem refs_vals : ∀ {cs : List Addr} {us : List Value}, Vals (cs.map V.ref) us → us = cs.map Value.ref
  | [], _, .nil => rfl
  | c :: cs, _, .cons r t => by rw [List.map_cons, ← refs_vals t, show _ = Value.ref c from r]
theorem call_isXT : CallR X (.builtin "isinstance") (rIsXT X.K) := by
  intro pins s σ H xs us Q I r h
  obtain ⟨a, C, dx, tp, fs, cs, b, rfl, ea, ed, hT, T, e, q⟩ := h
  match us, r with
  | [_, t], .cons rx (.cons rt .nil) =>
    obtain rfl : _ = Value.ref a := rx
    obtain rfl : t = Value.ref tp := rt
    obtain ⟨oe, od, mA, J, _, _⟩ := inst_of I ea ed
    obtain ⟨_, its, rv, o, h1, h2, n, h3⟩ := (show ObjOk X.prog X.w H s.heap tp (.tup (cs.map V.ref)) from I.hok tp _ hT)
    have e3 := refs_vals rv
    obtain ⟨oc, od2, dt, sl⟩ := o
    simp only at h2 h3
    subst h2 h3
    first
      | (rw [← e3] at e; exact PySem.W.kia_tup (PySem.W.gd_kitx T) I.kIn J h1 e (fun z => nomatch z) fun tk => ⟨.bl b, H, I.kept (t' := tk) fun _ _ z => z, rfl, q⟩)
      | (subst e3; exact PySem.W.kia_tup (PySem.W.gd_kitx T) I.kIn J h1 e (fun z => nomatch z) fun tk => ⟨.bl b, H, I.kept (t' := tk) fun _ _ z => z, rfl, q⟩)
end
def taCs : List Addr → TA
  | [] => tNil
  | c :: cs => tCons (tC (.ref c)) (taCs cs)
theorem taCs_run : ∀ (cs : List Addr) (σ : L2.St) (H : Hp) (Q : List V → Hp → Prop), Q (cs.map V.ref) H → taCs cs σ H Q
  | [], _, _, _, q => q
  | c :: cs, σ, H, Q, q => taCs_run cs σ H _ q
section
variable {K : PySem.W.Frag}
theorem ie_isXT {cs : List Addr} {k : Str → Option Bool} {te : TE} {fe : EvE} (hl : cs.length ≤ 20) (hk : ∀ nm b C, k nm = some b → PySem.W.nsIn K mainGlobals nm = some (some (.ref C)) → ExcC K C ∧ PySem.W.kitAny K (.ref C) (cs.map Value.ref) = some b) (he : IE K te fe) :
    IE K (tCB (rIsXT K) (tCons te (tCons (tTup (taCs cs)) tNil))) (eIsX k fe) := by
  intro F T env σ H r env' S e Q q
  simp only [eIsX, Option.bind_eq_some_iff, Option.map_eq_some_iff] at e
  obtain ⟨⟨d, e1⟩, h1, b, ⟨nm, h2, h2'⟩, h3⟩ := e
  cases h3
  refine i1 he S h1 fun x H' S' st l => ?_
  obtain ⟨f', d', rfl⟩ := excNm_of h2
  refine taCs_run cs σ H' _ ⟨by rw [List.length_map, sizeLine_eq]; omega, fun p np => ?_⟩
  obtain ⟨a, dx, C, y, rfl, hC, ha, hd, _⟩ := exc_lv (lv_new (o := .tup (cs.map V.ref)) np l) rfl
  obtain ⟨T1, T2⟩ := hk nm b C h2' hC
  have x : Ext (fun _ => False) H' (upd H' p (.tup (cs.map V.ref))) := Ext.new np
  exact ⟨a, C, dx, p, _, cs, b, rfl, ha, hd, upd_same, T1, T2, q _ _ (S'.lay x) (st.trans (Stp.lay x)) (.bl b)⟩
theorem kitAny0 {t : Value} : PySem.W.kitAny K t [] = some false := rfl
theorem kitAnyC {t c : Value} {cs : List Value} {b r : Bool} (h : PySem.W.kitOne K t c = some b) (hr : PySem.W.kitAny K t cs = some r) : PySem.W.kitAny K t (c :: cs) = some (b || r) := by
  unfold PySem.W.kitAny
  rw [h]
  cases b with
  | true => rfl
  | false => exact hr
theorem exm0 {t : Value} : PySem.W.exmAny K t [] = some false := rfl
theorem exmC {t c : Value} {cs : List Value} {b r : Bool} (h : PySem.W.exmOne K t c = some b) (hr : PySem.W.exmAny K t cs = some r) : PySem.W.exmAny K t (c :: cs) = some (b || r) := by
  rw [PySem.W.exmAny, h, hr]
end
end GD
namespace GD
open PySem PySem.Spec PySem.W PyProof.Rows
section
variable {K : PySem.W.Frag} {nm q : Str} {C N : Addr} {bs bm bmB : List Value} {sn : List Str} {sub : List Value} {ab : Bool} {col : Option Bool} {dd : Option Addr} {k0 k1 k2 k3 k5 : Option Value} {newId : String}
theorem ini_of2 (ht : excTail bmB bm = true) (h : K.lookup C = some (excClassObj nm q C N bs bm true sn sub ab col dd k0 k1 k2 k3 k5 newId)) : excInitIn K C bmB newId = true := by
  unfold excInitIn
  rw [h]
  show (C == C && newId == newId && !false && excTail bmB bm) = true
  rw [ht]
  simp
theorem ov_of2 (ht : excTail bmB bm = true) (h : K.lookup C = some (excClassObj nm q C N bs bm true sn sub ab col dd k0 k1 k2 k3 k5 newId)) : excOver K C bmB = true := by
  have hc : clsIn K C = some { name := nm, bases := bs, mro := .ref C :: bm, ns := N, qualname := q, hasDict := true, slotNames := sn, subclasses := sub, abstract := ab, collection := col, hasDel := false } := by
    unfold clsIn
    rw [h] <;> rfl
  unfold excOver
  rw [hc]
  show (C == C && excTail bmB bm) = true
  rw [ht]
  simp
theorem tail_TE {c : Addr} : excTail mroVE (.ref c :: mroVE) = true := tail_VE
end
end GD
namespace GD
open PySem PySem.Spec PyProof.Rows L2 GDX
/-! equations -/
section
variable {f g : EvSX} {fb : EvSX} {fs : EvS} {fa fk : EvA} {fw : EvW} {tg : D → En → Option En} {fe : EvER} {env e : En} {nm n fd : Str} {d : D} {r : R} {rt : Ret} {l w : List R} {M : FnX} {nms : List Str} {gR : List R → List R → List R} {i j : Nat} {ds : List D} {rx : RX} {fl : Fl}
def forXR (tg : D → En → Option En) (f : EvSX) : Option (List D × En) → Option (FlX × En)
  | some (ds, e) => forX tg f ds e
  | none => none
theorem q_forx : sxFor fw tg f env = forXR tg f (fw env) := by unfold sxFor; cases h : fw env <;> rfl
theorem q_forx1 : forXR tg f (some (ds, e)) = forX tg f ds e := rfl
theorem q_forx0 : forX tg f [] env = some (.fl .nx, env) := rfl
def forXK (tg : D → En → Option En) (f : EvSX) (ds : List D) : Option (FlX × En) → Option (FlX × En)
  | some (.fl .nx, e) => forX tg f ds e
  | some (.fl .ct, e) => forX tg f ds e
  | some (.fl .bk, e) => some (.fl .nx, e)
  | r => r
def forXB (tg : D → En → Option En) (f : EvSX) (ds : List D) : Option En → Option (FlX × En)
  | some e => forXK tg f ds (f e)
  | none => none
theorem q_forxc : forX tg f (d :: ds) env = forXB tg f ds (tg d env) := by
  show (tg d env).bind _ = _
  cases tg d env with
  | none => rfl
  | some e =>
    show (f e).bind _ = forXK tg f ds (f e)
    cases f e with
    | none => rfl
    | some p =>
      obtain ⟨q, e2⟩ := p
      match q with
      | .fl .nx => rfl
      | .fl .bk => rfl
      | .fl .ct => rfl
      | .fl (.rt r) => rfl
      | .rs a b c => rfl
theorem q_forxb : forXB tg f ds (some e) = forXK tg f ds (f e) := rfl
theorem q_forxk1 : forXK tg f ds (some (.fl .nx, e)) = forX tg f ds e := rfl
theorem q_forxk2 : forXK tg f ds (some (.fl .ct, e)) = forX tg f ds e := rfl
theorem q_forxk3 : forXK tg f ds (some (.fl .bk, e)) = some (.fl .nx, e) := rfl
theorem q_forxk4 : forXK tg f ds (some (.fl (.rt rt), e)) = some (.fl (.rt rt), e) := rfl
theorem q_forxk5 : forXK tg f ds (some (.rs nm fd d, e)) = some (.rs nm fd d, e) := rfl
def cxR4 (e : En) : Option RX → Option (ER × En)
  | some (.ret d) => some (.v d, e)
  | some (.rs nm f d) => some (.rs nm f d, e)
  | none => none
def cxR3 (M : FnX) (e : En) : Option (List D) → Option (ER × En)
  | some ds => cxR4 e (M ds)
  | none => none
def cxR2 (M : FnX) (gR : List R → List R → List R) (l : List R) : Option (List R × En) → Option (ER × En)
  | some (w, e) => cxR3 M e (rkA e (gR l w))
  | none => none
def cxR (M : FnX) (gR : List R → List R → List R) (fk : EvA) : Option (List R × En) → Option (ER × En)
  | some (l, e) => cxR2 M gR l (fk e)
  | none => none
theorem q_cx : xCallX M gR fa fk env = cxR M gR fk (fa env) := by
  unfold xCallX cxR
  cases fa env with
  | none => rfl
  | some p =>
    obtain ⟨l, e⟩ := p
    simp only [Option.bind_some]
    unfold cxR2
    cases fk e with
    | none => rfl
    | some q =>
      obtain ⟨w, e2⟩ := q
      simp only [Option.bind_some]
      unfold cxR3
      cases rkA e2 (gR l w) with
      | none => rfl
      | some ds =>
        simp only [Option.bind_some]
        unfold cxR4
        cases M ds with
        | none => rfl
        | some rx => cases rx <;> rfl
theorem q_cx1 : cxR M gR fk (some (l, e)) = cxR2 M gR l (fk e) := rfl
theorem q_cx2 : cxR2 M gR l (some (w, e)) = cxR3 M e (rkA e (gR l w)) := rfl
theorem q_cx3 : cxR3 M e (some ds) = cxR4 e (M ds) := rfl
theorem q_cx4 : cxR4 e (some (.ret d)) = some (.v d, e) := rfl
theorem q_cx5 : cxR4 e (some (.rs nm fd d)) = some (.rs nm fd d, e) := rfl
theorem q_gR0 : gR0 l w = l := rfl
def dropXR : Option (ER × En) → Option (FlX × En)
  | some (.v _, e) => some (.fl .nx, e)
  | some (.rs nm f d, e) => some (.rs nm f d, e)
  | none => none
theorem q_dropX : sxDrop fe env = dropXR (fe env) := by
  unfold sxDrop dropXR
  cases fe env with
  | none => rfl
  | some p => obtain ⟨r, e⟩ := p; cases r <;> rfl
theorem q_dropX1 : dropXR (some (.v d, e)) = some (.fl .nx, e) := rfl
theorem q_dropX2 : dropXR (some (.rs nm fd d, e)) = some (.rs nm fd d, e) := rfl
def setXR (j : Nat) : Option (ER × En) → Option (FlX × En)
  | some (.v d, e) => some (.fl .nx, e.set j (some (.shr d)))
  | some (.rs nm f d, e) => some (.rs nm f d, e)
  | none => none
theorem q_setXX : sxSet j fe env = setXR j (fe env) := by
  unfold sxSet setXR
  cases fe env with
  | none => rfl
  | some p => obtain ⟨r, e⟩ := p; cases r <;> rfl
theorem q_setXX1 : setXR j (some (.v d, e)) = some (.fl .nx, e.set j (some (.shr d))) := rfl
theorem q_setXX2 : setXR j (some (.rs nm fd d, e)) = some (.rs nm fd d, e) := rfl
def retXR : Option (ER × En) → Option (FlX × En)
  | some (.v d, e) => some (.fl (.rt (.val d)), e)
  | some (.rs nm f d, e) => some (.rs nm f d, e)
  | none => none
theorem q_retXX : sxRet fe env = retXR (fe env) := by
  unfold sxRet retXR
  cases fe env with
  | none => rfl
  | some p => obtain ⟨r, e⟩ := p; cases r <;> rfl
theorem q_retXX1 : retXR (some (.v d, e)) = some (.fl (.rt (.val d)), e) := rfl
theorem q_retXX2 : retXR (some (.rs nm fd d, e)) = some (.rs nm fd d, e) := rfl
def retLR : Option (ER × En) → Option (FlX × En)
  | some (.v d, e) => some (.fl (.rt (.val (.list [d]))), e)
  | some (.rs nm f d, e) => some (.rs nm f d, e)
  | none => none
theorem q_retLX : sxRetL fe env = retLR (fe env) := by
  unfold sxRetL retLR
  cases fe env with
  | none => rfl
  | some p => obtain ⟨r, e⟩ := p; cases r <;> rfl
theorem q_retLX1 : retLR (some (.v d, e)) = some (.fl (.rt (.val (.list [d]))), e) := rfl
theorem q_retLX2 : retLR (some (.rs nm fd d, e)) = some (.rs nm fd d, e) := rfl
def tgR (nms : List Str) (i : Nat) (fs : EvS) : Option (FlX × En) → Option (Fl × En)
  | some (.fl f, e) => some (f, e)
  | some (.rs nm f d, e) => if nms.contains nm = true then tryR5 i (fs (e.set i (some (.shr (excD nm f d))))) else none
  | none => none
theorem q_tg : sTryG fb nms i fs env = tgR nms i fs (fb env) := by
  unfold sTryG tgR
  cases fb env with
  | none => rfl
  | some p =>
    obtain ⟨fl0, e2⟩ := p
    cases fl0 with
    | fl f => rfl
    | rs nm fd d =>
      simp only [Option.bind_some]
      split
      · unfold tryR5
        cases fs (e2.set i (some (.shr (excD nm fd d)))) with
        | none => rfl
        | some r =>
          obtain ⟨fl, e3⟩ := r
          match fl with
          | .nx => rfl
          | .bk => rfl
          | .ct => rfl
          | .rt (.val d) => rfl
          | .rt (.new m) => rfl
      · rfl
theorem q_tg1 : tgR nms i fs (some (.fl fl, e)) = some (fl, e) := rfl
theorem q_tg2 (h : nms.contains nm = true) : tgR nms i fs (some (.rs nm fd d, e)) = tryR5 i (fs (e.set i (some (.shr (excD nm fd d))))) := if_pos h
end
end GD

/-! any try, as one form -/
namespace GD
open PySem PySem.Spec PyProof.Rows L2 GDX
def tTryG (K : PySem.W.Frag) (cs : List Value) (i : Nat) (tb : WX → TS) (ts : TS) : TS := fun D σ H => tb (wTrN K cs i ts D) D σ H
section
variable {X : Cx} {x1 n : Str} {c1 : Value} {cs : List Value} {elts : List Expr} {i kk : Nat} {body suite : List Stmt} {b₀ : Stmt} {p1 tp pos pos' : Pos} {tb : WX → TS} {ts : TS}
theorem ps_tryG (hs : X.stack = X.env :: X.outer) (hf : X.env.frame = some X.env.locals) (hex : X.ex = []) (hN : X.N.Nodup) (hi : X.N[i]? = some n) (hln : X.env.kindOf n = some .local) (hcs : cs.length ≤ 20) (nn : NamesEx X elts cs)
    (hb : ∀ (W : WX) (pn : List (Addr × Obj)) (xe : Value → Shared → Prop), Takes (X.tr pn xe) W → PassesOwn (model X.prog X.w) X.A X.env xe → PSs (X.tr pn xe) body (tb W))
    (hsu : ∀ (a : Addr) (pn : List (Addr × Obj)), PSs (X.suite a pn) (b₀ :: suite) ts) :
    PS X (.Try body [.ExceptHandler (some (.Tuple elts kk tp)) (some n) (b₀ :: suite) pos'] [] [] pos) (tTryG X.K cs i tb ts) := ps_tryN hs hf hex hN hi hln hcs nn hb hsu
theorem ps_tryG1 (hs : X.stack = X.env :: X.outer) (hf : X.env.frame = some X.env.locals) (hex : X.ex = []) (hN : X.N.Nodup) (hi : X.N[i]? = some n) (hln : X.env.kindOf n = some .local) (n1 : Names X x1 c1)
    (hb : ∀ (W : WX) (pn : List (Addr × Obj)) (xe : Value → Shared → Prop), Takes (X.tr pn xe) W → PassesOwn (model X.prog X.w) X.A X.env xe → PSs (X.tr pn xe) body (tb W))
    (hsu : ∀ (a : Addr) (pn : List (Addr × Obj)), PSs (X.suite a pn) (b₀ :: suite) ts) :
    PS X (.Try body [.ExceptHandler (some (.Name x1 p1)) (some n) (b₀ :: suite) pos'] [] [] pos) (tTryG X.K [c1] i tb ts) := ps_try1 hs hf hex hN hi hln n1 hb hsu
end
theorem is_tG {K : PySem.W.Frag} {cs : List Value} {i : Nat} {nms : List Str} {tb : WX → TS} {fb : EvSX} {ts : TS} {fs : EvS} (hb : ISY K tb fb) (hs : IS K ts fs)
    (hc : ∀ nm C, nms.contains nm = true → PySem.W.nsIn K mainGlobals nm = some (some (.ref C)) → PySem.W.exmAny K (.ref C) cs = some true) :
    IS K (tTryG K cs i tb ts) (sTryG fb nms i fs) := is_tryG hb hs hc
end GD

/-! defs that raise and may return what is new -/
namespace GD
open PySem PySem.Spec PyProof.Rows L2 GDX
def runY (n : Nat) (b : EvSX) : FnX := fun ds => (b (env0 n (ds.map Sl.shr))).bind fun p => match p.1 with
  | .fl (.rt (.val d)) => some (.ret d)
  | .fl (.rt (.new m)) => some (.ret m.toD)
  | .fl .nx => some (.ret .none)
  | .rs nm f d => some (.rs nm f d)
  | _ => none
section
variable {K : PySem.W.Frag}
theorem body_okY {t : WX → TS} {b : EvSX} {N : List Str} {vs : List V} {H : Hp} {Q : VK} {E : XK} {k : Nat} (hb : ISX K t b) (h : spX K k (runY N.length b) vs H Q E) :
    t (fun cls d _ H => E cls d H) { nx := fun _ H' => Q .non H', rt := Q } (L2.start N vs) H := by
  obtain ⟨O, ds, rx, hl, hO, r, hm, q1, q2⟩ := h
  simp only [runY, Option.bind_eq_some_iff] at hm
  obtain ⟨⟨fl, env'⟩, h1, h2⟩ := hm
  have x : ∀ {T' : Addr → Prop} {H' : Hp} {e' : En} {σ' : L2.St}, StOk K ⟨O, fun _ => False, H, vs⟩ T' H' e' σ' → Ext (fun _ => False) H H' := fun S => S.ext
  refine hb ⟨O, fun _ => False, H, vs⟩ _ _ H fl env' (start_ok hO r) h1 _ _ ?_
  match fl, h2 with
  | .fl .nx, h2 =>
    cases h2
    exact fun σ' H' S' _ => q1 _ rfl _ _ (x S') .non
  | .fl (.rt (.val d)), h2 =>
    cases h2
    exact fun v σ' H' hr => q1 _ rfl _ _ (x hr.1) (hr.2.anti fun a h => .inl h)
  | .fl (.rt (.new m)), h2 =>
    cases h2
    intro v σ' H' hr
    obtain ⟨p, T', rfl, n0, S, _, mu⟩ := hr
    exact q1 _ rfl _ _ (x S) ((mu.tr (O' := O) (fun a _ _ n q => n (.inl q)) (fun _ _ _ e => e) (fun _ e => e)).rp fun q => hO p q n0)
  | .rs nm f d, h2 =>
    cases h2
    exact fun C v σ' H' dx hC S' rv nd => q2 _ _ _ rfl C v H' dx hC (x S') nd (rv.anti fun a h => .inl h)
  | .fl .bk, h2 => cases h2
  | .fl .ct, h2 => cases h2
end
theorem fnY {P : Program} {w : World} {K : PySem.W.Frag} {mg : Str → Option Value} {base : Heap} {x qual : Str} {st : Stmt} {f : Addr} {fd : FuncData} {N ps : List Str} {k : Nat} {b : EvSX} (F : Fun K x qual st f fd) (S : FnScope N ps (defScope st))
    (hbody : ∀ (cdv : Value) (A : Around) (outer : List Env) (s : Shared) (H : Hp) (E : XK), A.guards = some [] → Room k (A.deeper (envOfC qual (defScope st) s.heap.objs.size f cdv)) →
      ∃ t : WX → TS, (∀ W, Takes (cxOf (L2.CX P w) P w K mg base N qual (defScope st) f cdv A outer s H E) W → PSs (cxOf (L2.CX P w) P w K mg base N qual (defScope st) f cdv A outer s H E) (defBody st) (t W)) ∧ ISX K t b) : FnG P w K mg base (L2.CX P w) (k + 1) f fd ps (spX K ps.length (runY N.length b)) := by
  obtain ⟨oc, od, kV, doc, pm, an, cdv, ct, osl, rfl, lk, hcd⟩ := F.ex
  refine fn_ofG lk hcd S (fun vs H Q E h => ?_) fun A outer s H vs Q E hg hr h => ?_
  · obtain ⟨O, ds, rx, hl, _⟩ := h
    exact hl
  · obtain ⟨t, h1, h2⟩ := hbody cdv A outer s H E hg hr
    exact ⟨_, h1 _ (takes_of rfl rfl rfl rfl), body_okY h2 h⟩
section
variable {e : En} {ds : List D} {d : D} {nm fd : Str} {m : Mu}
def runYR : Option (FlX × En) → Option RX
  | some (.fl (.rt (.val d)), _) => some (.ret d)
  | some (.fl (.rt (.new m)), _) => some (.ret m.toD)
  | some (.fl .nx, _) => some (.ret .none)
  | some (.rs nm f d, _) => some (.rs nm f d)
  | _ => none
theorem q_runY {m : Nat} {bx : EvSX} : runY m bx ds = runYR (bx (env0 m (ds.map Sl.shr))) := by
  unfold runY
  cases bx (env0 m (ds.map Sl.shr)) with
  | none => rfl
  | some p =>
    obtain ⟨q, e⟩ := p
    match q with
    | .fl .nx => rfl
    | .fl .bk => rfl
    | .fl .ct => rfl
    | .fl (.rt (.val d)) => rfl
    | .fl (.rt (.new m)) => rfl
    | .rs a b c => rfl
theorem q_runY1 : runYR (some (.fl (.rt (.val d)), e)) = some (.ret d) := rfl
theorem q_runY2 : runYR (some (.fl .nx, e)) = some (.ret .none) := rfl
theorem q_runY3 : runYR (some (.rs nm fd d, e)) = some (.rs nm fd d) := rfl
theorem q_runY4 : runYR (some (.fl (.rt (.new m)), e)) = some (.ret m.toD) := rfl
end
end GD

namespace My
open PySem PySem.Spec PyProof.Rows L2 GD GDX
def topS (i : Nat) : Stmt := PySem.Challenge.pw_gapdup_k59_texts_of_no_redirections.main.body.getD i (.Pass ⟨0, 0, 0, 0⟩)
def fuel : Nat := 100000
abbrev s_slot_in : Stmt := topS 14
abbrev N_slot_in : List Str := ["word", "sign"]
theorem sc_slot_in : FnScope N_slot_in ["word"] (defScope s_slot_in) := ⟨rfl, rfl, rfl, by decide +kernel, rfl, by decide +kernel, by decide +kernel⟩
abbrev s_item_in : Stmt := topS 15
abbrev N_item_in : List Str := ["word", "before", "sign", "behind", "slot", "source"]
theorem sc_item_in : FnScope N_item_in ["word"] (defScope s_item_in) := ⟨rfl, rfl, rfl, by decide +kernel, rfl, by decide +kernel, by decide +kernel⟩
abbrev s_parse_redirections : Stmt := topS 16
abbrev N_parse_redirections : List Str := ["text", "items", "word"]
theorem sc_parse_redirections : FnScope N_parse_redirections ["text"] (defScope s_parse_redirections) := ⟨rfl, rfl, rfl, by decide +kernel, rfl, by decide +kernel, by decide +kernel⟩
abbrev s__law_make_deck : Stmt := topS 18
abbrev N__law_make_deck : List Str := ["_law_script"]
theorem sc__law_make_deck : FnScope N__law_make_deck ["_law_script"] (defScope s__law_make_deck) := ⟨rfl, rfl, rfl, by decide +kernel, rfl, by decide +kernel, by decide +kernel⟩
abbrev s__law_draw : Stmt := topS 19
abbrev N__law_draw : List Str := ["_law_deck", "_law_bound", "_law_digit", "_law_index", "_law_cell", "_law_whole", "_law_mixed"]
theorem sc__law_draw : FnScope N__law_draw ["_law_deck", "_law_bound"] (defScope s__law_draw) := ⟨rfl, rfl, rfl, by decide +kernel, rfl, by decide +kernel, by decide +kernel⟩
abbrev s__law_number_due : Stmt := topS 20
abbrev N__law_number_due : List Str := ["_law_word", "_law_sign"]
theorem sc__law_number_due : FnScope N__law_number_due ["_law_word"] (defScope s__law_number_due) := ⟨rfl, rfl, rfl, by decide +kernel, rfl, by decide +kernel, by decide +kernel⟩
abbrev s__law_rows_due : Stmt := topS 21
abbrev N__law_rows_due : List Str := ["_law_line", "_law_found", "_law_word", "_law_halves"]
theorem sc__law_rows_due : FnScope N__law_rows_due ["_law_line"] (defScope s__law_rows_due) := ⟨rfl, rfl, rfl, by decide +kernel, rfl, by decide +kernel, by decide +kernel⟩
abbrev s__law_heard : Stmt := topS 22
abbrev N__law_heard : List Str := ["_law_line", "_law_caught", "error"]
theorem sc__law_heard : FnScope N__law_heard ["_law_line"] (defScope s__law_heard) := ⟨rfl, rfl, rfl, by decide +kernel, rfl, by decide +kernel, by decide +kernel⟩
abbrev s__law_drawn_text : Stmt := topS 23
abbrev N__law_drawn_text : List Str := ["_law_deck", "_law_words", "_law_k", "_law_source"]
theorem sc__law_drawn_text : FnScope N__law_drawn_text ["_law_deck"] (defScope s__law_drawn_text) := ⟨rfl, rfl, rfl, by decide +kernel, rfl, by decide +kernel, by decide +kernel⟩
abbrev s__law_bent_text : Stmt := topS 24
abbrev N__law_bent_text : List Str := ["_law_deck", "_law_line", "_law_at", "_law_signs", "_law_sign", "_law_some", "_law_words", "_law_k", "_law_odd", "_law_twice"]
theorem sc__law_bent_text : FnScope N__law_bent_text ["_law_deck", "_law_line"] (defScope s__law_bent_text) := ⟨rfl, rfl, rfl, by decide +kernel, rfl, by decide +kernel, by decide +kernel⟩
abbrev s_law : Stmt := topS 25
abbrev N_law : List Str := ["_law_script", "_law_deck", "_law_lines", "_law_round_so", "_law_line", "_law_bent"]
theorem sc_law : FnScope N_law ["_law_script"] (defScope s_law) := ⟨rfl, rfl, rfl, by decide +kernel, rfl, by decide +kernel, by decide +kernel⟩
abbrev sI_InvalidText : Stmt := (match topS 4 with | .ClassDef _ _ _ body _ _ _ _ _ _ _ => body.getD 0 (.Pass ⟨0, 0, 0, 0⟩) | x => x)
def isxk_InvalidText : Str → Option Bool := fun nm => if nm = "InvalidText" then some true else none
def isxk_TableError : Str → Option Bool := fun nm => if nm = "InvalidText" then some true else none
def isxk_InvalidRow_InvalidScript_InvalidTable : Str → Option Bool := fun nm => if nm = "InvalidText" then some false else none
/-! ### what each def means -/
def b_slot_in : EvS := (sSeq (sIf (tfOr (tfNot (tVal (eChain dLe dLe (eC (.int 1)) (eCa cLen (aCons (eVar 0) aNil)) (eC (.int 3))))) (tfNot (tVal (eCa cAll (aCons (eX (xM (eComp [1] (wAny (eGive 0)) (gN 1) tYesE (eOp dIn (eVar 1) (eC (.str ("0123456789" : Str))))))) aNil))))) (sRetX (xE (eC .none))) sNext)
      (sRetX (xIf (tVal (eOp dEq (eCa cStr (aCons (eCa cInt (aCons (eVar 0) aNil)) aNil)) (eVar 0))) (xE (eCa cInt (aCons (eVar 0) aNil))) (xE (eC .none)))))
def m_slot_in : FnS := runB 2 b_slot_in
def b_item_in : EvS := (sSeq (sAsg (gT 3 (gsCons (gN 1) (gsCons (gN 2) (gsCons (gN 3) gsNil)))) (eBm "str" mPart (eVar 0) (aCons (eC (.str (">&" : Str))) aNil)))
      (sSeq (sSetX 4 (xCall m_slot_in (aCons (eGive 1) aNil)))
      (sSeq (sIf (tfOr (tVal (eOp dEq (eVar 2) (eC (.str ("" : Str))))) (tVal (eIsN (eVar 4)))) (sRetX (xE (eC .none))) sNext)
      (sSeq (sIf (tVal (eOp dEq (eVar 3) (eC (.str ("-" : Str))))) (sRetX (xE (eTup (aCons (eGive 4) (aCons (eC .none) aNil))))) sNext)
      (sSeq (sSetX 5 (xCall m_slot_in (aCons (eGive 3) aNil)))
      (sRetX (xIf (tVal (eIsN (eVar 5))) (xE (eC .none)) (xE (eTup (aCons (eGive 4) (aCons (eGive 5) aNil)))))))))))
def m_item_in : FnS := runB 6 b_item_in
def b_parse_redirections : EvSX := (sxSeq (sxIf (tfNot (tVal (eIsi "str" kIs_str (eVar 0)))) (sxRz "InvalidText" "line" (aCons (eC (.int 0)) aNil)) (sOf sNext))
      (sxSeq (sOf (sSetX 1 (xIf (tVal (eOp dNe (eVar 0) (eC (.str ("" : Str))))) (xM (eComp [2] (wAny (eX (xM (eBmM "str" mSplit (eVar 0) (aCons (eC (.str (" " : Str))) aNil))))) (gN 2) tYesE (eX (xCall m_item_in (aCons (eGive 2) aNil))))) (xM (eLst aNil)))))
      (sxSeq (sxIf (tfOr (tVal (eOp dIn (eC .none) (eVar 1))) (tVal (eOp dGt (eCa cLen (aCons (eVar 1) aNil)) (eC (.int 200))))) (sxRz "InvalidText" "line" (aCons (eC (.int 0)) aNil)) (sOf sNext))
      (sOf (sRetX (xE (eVar 1)))))))
def m_parse_redirections : FnX := runY 3 b_parse_redirections
def b__law_draw : EvS := (sSeq (sIf (tVal (eOp dGt (eOp dIx (eVar 0) (eC (.int 2))) (eC (.int 0)))) (sSeq (sSetX 2 (xE (eOp dMod (eOp dIx (eVar 0) (eC (.int 2))) (eVar 1))))
      (sSeq (sPut gSetL 0 (eC (.int 2)) (eOp dDiv (eOp dIx (eVar 0) (eC (.int 2))) (eVar 1)))
      (sRetX (xE (eVar 2))))) sNext)
      (sSeq (sSetX 3 (xE (eOp dIx (eVar 0) (eC (.int 1)))))
      (sSeq (sPut gSetL 0 (eC (.int 1)) (eX (xOp dAddX (eVar 3) (eC (.int 1)))))
      (sSeq (sSetX 4 (xOp dAddX (eOp dMul (eC (.int 40151)) (eVar 3)) (eC (.int 17))))
      (sSeq (sIf (tVal (eOp dNe (eOp dIx (eVar 0) (eC (.int 0))) (eX (xM (eLst aNil))))) (sSetX 4 (xE (eOp dIx (eOp dIx (eVar 0) (eC (.int 0))) (eOp dMod (eVar 3) (eCa cLen (aCons (eOp dIx (eVar 0) (eC (.int 0))) aNil)))))) sNext)
      (sSeq (sIf (tfAnd (tVal (eOp dLt (eVar 3) (eCa cLen (aCons (eOp dIx (eVar 0) (eC (.int 0))) aNil)))) (tVal (eOp dGe (eCa cAbs (aCons (eVar 4) aNil)) (eOp dPow (eC (.int 10)) (eC (.int 18)))))) (sSeq (sSetX 5 (xOp dAddX (eOp dMul (eC (.int 2)) (eCa cAbs (aCons (eVar 4) aNil))) (eCa cInt (aCons (eOp dLt (eVar 4) (eC (.int 0))) aNil))))
      (sSeq (sPut gSetL 0 (eC (.int 2)) (eOp dDiv (eVar 5) (eVar 1)))
      (sRetX (xE (eOp dMod (eVar 5) (eVar 1)))))) sNext)
      (sSeq (sSetX 6 (xE (eOp dMod (eOp dPow (eX (xOp dAddX (eX (xOp dAddX (eOp dMod (eVar 4) (eC (.int 2147483549))) (eOp dMul (eC (.int 60149)) (eVar 3)))) (eC (.int 37)))) (eC (.int 5))) (eC (.int 2147483579)))))
      (sSeq (sSetX 6 (xE (eOp dMod (eOp dPow (eX (xOp dAddX (eX (xOp dAddX (eOp dMul (eVar 6) (eX (xOp dAddX (eOp dMul (eC (.int 2)) (eVar 3)) (eC (.int 13))))) (eOp dMul (eOp dMul (eC (.int 70123)) (eVar 3)) (eVar 3)))) (eC (.int 3)))) (eC (.int 3))) (eC (.int 2147483629)))))
      (sRetX (xE (eOp dMod (eOp dDiv (eVar 6) (eC (.int 16))) (eVar 1))))))))))))
def m__law_draw : FnS := runB 7 b__law_draw
def b__law_number_due : EvS := (sSeq (sIf (tfOr (tVal (eOp dEq (eVar 0) (eC (.str ("" : Str))))) (tfOr (tVal (eOp dGt (eCa cLen (aCons (eVar 0) aNil)) (eC (.int 3)))) (tVal (eOp dNe (eX (xM (eComp [1] (wAny (eGive 0)) (gN 1) (tVal (eOp dNotIn (eVar 1) (eC (.str ("0123456789" : Str))))) (eGive 1)))) (eX (xM (eLst aNil))))))) (sRetX (xM (eLst aNil))) sNext)
      (sRetX (xIf (tfOr (tVal (eOp dEq (eVar 0) (eC (.str ("0" : Str))))) (tVal (eOp dNe (eOp dIx (eVar 0) (eC (.int 0))) (eC (.str ("0" : Str)))))) (xM (eLst (aCons (eCa cInt (aCons (eVar 0) aNil)) aNil))) (xM (eLst aNil)))))
def m__law_number_due : FnS := runB 2 b__law_number_due
def b__law_rows_due : EvS := (sSeq (sIf (tfNot (tVal (eIsi "str" kIs_str (eVar 0)))) (sRetX (xM (eLst aNil))) sNext)
      (sSeq (sSetX 1 (xM (eLst aNil)))
      (sSeq (sFor (wAny (eX (xIf (tVal (eOp dEq (eVar 0) (eC (.str ("" : Str))))) (xM (eLst aNil)) (xM (eBmM "str" mSplit (eVar 0) (aCons (eC (.str (" " : Str))) aNil)))))) (gN 2) (sSeq (sSetX 3 (xM (eBmM "str" mSplit (eVar 2) (aCons (eC (.str (">&" : Str))) aNil))))
      (sSeq (sIf (tfOr (tVal (eOp dNe (eCa cLen (aCons (eVar 3) aNil)) (eC (.int 2)))) (tVal (eOp dEq (eX (xCall m__law_number_due (aCons (eOp dIx (eVar 3) (eC (.int 0))) aNil))) (eX (xM (eLst aNil)))))) (sRetX (xM (eLst aNil))) sNext)
      (sSeq (sIf (tfAnd (tVal (eOp dNe (eOp dIx (eVar 3) (eC (.int 1))) (eC (.str ("-" : Str))))) (tVal (eOp dEq (eX (xCall m__law_number_due (aCons (eOp dIx (eVar 3) (eC (.int 1))) aNil))) (eX (xM (eLst aNil)))))) (sRetX (xM (eLst aNil))) sNext)
      (sDrop (eMt "list" gApp 1 (aCons (eTup (aCons (eOp dIx (eX (xCall m__law_number_due (aCons (eOp dIx (eVar 3) (eC (.int 0))) aNil))) (eC (.int 0))) (aCons (eOp dIx (eX (xOp dAddX (eX (xCall m__law_number_due (aCons (eOp dIx (eVar 3) (eC (.int 1))) aNil))) (eX (xM (eLst (aCons (eC .none) aNil)))))) (eC (.int 0))) aNil))) aNil)))))))
      (sRetX (xIf (tVal (eOp dLt (eCa cLen (aCons (eVar 1) aNil)) (eC (.int 201)))) (xM (eLst (aCons (eGive 1) aNil))) (xM (eLst aNil)))))))
def m__law_rows_due : FnS := runB 4 b__law_rows_due
def b__law_heard : EvS := (sSeq (sSetX 1 (xE (eC .none)))
      (sSeq (sTryG (sxRetL (xCallX m_parse_redirections gR0 (aCons (eGive 0) aNil) aNil)) ["InvalidText"] 2 (sSetX 1 (xE (eGive 2))))
      (sSeq (sIf (tfOr (tfNot (tVal (eIsX isxk_InvalidText (eVar 1)))) (tVal (eIsX isxk_InvalidRow_InvalidScript_InvalidTable (eVar 1)))) (sRetX (xE (eC .none))) sNext)
      (sRetX (xIf (tfAnd (tVal (eOp dEq (eCa cRepr (aCons (eXF ["InvalidText"] "line" (eVar 1)) aNil)) (eC (.str ("0" : Str))))) (tVal (eIsX isxk_TableError (eVar 1)))) (xM (eLst aNil)) (xE (eC .none)))))))
def m__law_heard : FnS := runB 3 b__law_heard
def b__law_drawn_text : EvS := (sSeq (sSetX 1 (xM (eLst aNil)))
      (sSeq (sFor (wRng1 (aCons (eX (xCall m__law_draw (aCons (eVar 0) (aCons (eC (.int 16)) aNil)))) aNil)) (gN 2) (sSeq (sSetX 3 (xE (eOp dIx (eX (xM (eLst (aCons (eCa cStr (aCons (eX (xCall m__law_draw (aCons (eVar 0) (aCons (eC (.int 100)) aNil)))) aNil)) (aCons (eCa cStr (aCons (eX (xCall m__law_draw (aCons (eVar 0) (aCons (eC (.int 12)) aNil)))) aNil)) (aCons (eC (.str ("-" : Str))) (aCons (eC (.str ("999" : Str))) aNil))))))) (eX (xCall m__law_draw (aCons (eVar 0) (aCons (eC (.int 4)) aNil)))))))
      (sDrop (eMt "list" gApp 1 (aCons (eX (xOp dAddX (eX (xOp dAddX (eCa cStr (aCons (eOp dIx (eX (xM (eLst (aCons (eX (xCall m__law_draw (aCons (eVar 0) (aCons (eC (.int 12)) aNil)))) (aCons (eX (xCall m__law_draw (aCons (eVar 0) (aCons (eC (.int 1000)) aNil)))) aNil))))) (eX (xCall m__law_draw (aCons (eVar 0) (aCons (eC (.int 2)) aNil))))) aNil)) (eC (.str (">&" : Str))))) (eVar 3))) aNil)))))
      (sRetX (xE (eBm "str" mJoin (eC (.str (" " : Str))) (aCons (eVar 1) aNil))))))
def m__law_drawn_text : FnS := runB 4 b__law_drawn_text
def b__law_bent_text : EvS := (sSeq (sSetX 2 (xCall m__law_draw (aCons (eVar 0) (aCons (eX (xOp dAddX (eCa cLen (aCons (eVar 1) aNil)) (eC (.int 1)))) aNil))))
      (sSeq (sSetX 3 (xOp dAddX (eC (.str (" 0123456789>&-+~a_.;" : Str))) (eC (.str ("\n" : Str)))))
      (sSeq (sSetX 4 (xE (eOp dIx (eX (xM (eLst (aCons (eOp dIx (eVar 3) (eX (xCall m__law_draw (aCons (eVar 0) (aCons (eC (.int 21)) aNil))))) (aCons (eC (.str (">&" : Str))) (aCons (eC (.str ("0" : Str))) (aCons (eC (.str (" " : Str))) (aCons (eC (.str (">" : Str))) (aCons (eC (.str ("&" : Str))) (aCons (eC (.str ("00" : Str))) (aCons (eC (.str ("-1" : Str))) aNil))))))))))) (eX (xCall m__law_draw (aCons (eVar 0) (aCons (eC (.int 8)) aNil)))))))
      (sSeq (sSetX 5 (xM (eLst (aCons (eX (xOp dAddX (eX (xOp dAddX (eX (xSl (eVar 1) oNone (oSome (eVar 2)))) (eVar 4))) (eX (xSl (eVar 1) (oSome (eVar 2)) oNone)))) (aCons (eX (xOp dAddX (eX (xSl (eVar 1) oNone (oSome (eVar 2)))) (eX (xSl (eVar 1) (oSome (eX (xOp dAddX (eVar 2) (eC (.int 1))))) oNone)))) (aCons (eX (xOp dAddX (eX (xOp dAddX (eX (xSl (eVar 1) oNone (oSome (eVar 2)))) (eVar 4))) (eX (xSl (eVar 1) (oSome (eX (xOp dAddX (eVar 2) (eC (.int 1))))) oNone)))) (aCons (eX (xSl (eVar 1) oNone (oSome (eVar 2)))) aNil)))))))
      (sSeq (sSetX 6 (xM (eBmM "str" mSplit (eVar 1) (aCons (eC (.str (" " : Str))) aNil))))
      (sSeq (sSetX 7 (xCall m__law_draw (aCons (eVar 0) (aCons (eCa cLen (aCons (eVar 6) aNil)) aNil))))
      (sSeq (sSetX 8 (xM (eLst (aCons (eC (.str ("01>&2" : Str))) (aCons (eC (.str ("1>&02" : Str))) (aCons (eC (.str ("1000>&1" : Str))) (aCons (eC (.str ("1>&1000" : Str))) (aCons (eC (.str ("1>&--" : Str))) (aCons (eC (.str (">&1" : Str))) (aCons (eC (.str ("1>&" : Str))) (aCons (eC (.str ("1&>2" : Str))) (aCons (eC (.str ("1>2" : Str))) aNil))))))))))))
      (sSeq (sSetX 8 (xOp dAddX (eVar 8) (eX (xM (eLst (aCons (eC (.str ("1<&2" : Str))) (aCons (eC (.str ("1>&2>&3" : Str))) (aCons (eC (.str ("a>&1" : Str))) (aCons (eC (.str ("- >&1" : Str))) aNil)))))))))
      (sSeq (sDrop (eMt "list" gApp 5 (aCons (eBm "str" mJoin (eC (.str (" " : Str))) (aCons (eX (xOp dAddX (eX (xOp dAddX (eX (xSl (eVar 6) oNone (oSome (eVar 7)))) (eX (xM (eLst (aCons (eOp dIx (eVar 8) (eX (xCall m__law_draw (aCons (eVar 0) (aCons (eC (.int 13)) aNil))))) aNil)))))) (eX (xSl (eVar 6) (oSome (eX (xOp dAddX (eVar 7) (eC (.int 1))))) oNone)))) aNil)) aNil)))
      (sSeq (sSetX 9 (xE (eBm "str" mJoin (eC (.str (" " : Str))) (aCons (eX (xOp dAddX (eX (xOp dAddX (eX (xSl (eVar 6) oNone (oSome (eVar 7)))) (eX (xSl (eVar 6) (oSome (eVar 7)) (oSome (eX (xOp dAddX (eVar 7) (eC (.int 1))))))))) (eX (xSl (eVar 6) (oSome (eVar 7)) oNone)))) aNil))))
      (sRetX (xE (eOp dIx (eX (xOp dAddX (eVar 5) (eX (xM (eLst (aCons (eX (xOp dAddX (eC (.str (" " : Str))) (eVar 1))) (aCons (eX (xOp dAddX (eVar 1) (eC (.str (" " : Str))))) (aCons (eX (xOp dAddX (eVar 1) (eC (.str ("\n" : Str))))) (aCons (eGive 9) aNil))))))))) (eX (xCall m__law_draw (aCons (eVar 0) (aCons (eC (.int 9)) aNil)))))))))))))))))
def m__law_bent_text : FnS := runB 10 b__law_bent_text
def b_law : EvS := (sSeq (sSetX 2 (xM (eLst (aCons (eC .none) (aCons (eC (.int 0)) (aCons (eX (xM (eLst aNil))) (aCons (eX (xM (eLst (aCons (eC (.str ("1>&2" : Str))) aNil)))) (aCons (eTup (aCons (eC (.str ("1>&2" : Str))) aNil)) (aCons (eX (xM eD0)) (aCons (eC (.bool true)) (aCons (eC (.str ("" : Str))) (aCons (eC (.str (" " : Str))) (aCons (eC (.str ("1>&2" : Str))) (aCons (eC (.str ("999>&999" : Str))) (aCons (eC (.str ("1000>&1" : Str))) (aCons (eC (.str ("0>&-" : Str))) (aCons (eC (.str ("1>&2 " : Str))) aNil)))))))))))))))))
      (sSeq (sSetX 2 (xOp dAddX (eVar 2) (eX (xM (eLst (aCons (eBm "str" mJoin (eC (.str (" " : Str))) (aCons (eX (xOp dMulX (eX (xM (eLst (aCons (eC (.str ("3>&1" : Str))) aNil)))) (eC (.int 200)))) aNil)) (aCons (eBm "str" mJoin (eC (.str (" " : Str))) (aCons (eX (xOp dMulX (eX (xM (eLst (aCons (eC (.str ("3>&1" : Str))) aNil)))) (eC (.int 201)))) aNil)) aNil)))))))
      (sSeq (sFor (wRng1 (aCons (eC (.int 8)) aNil)) (gN 3) (sSeq (sSetX 4 (xCall m__law_drawn_text (aCons (eVar 1) aNil)))
      (sSeq (sSetX 5 (xCall m__law_bent_text (aCons (eVar 1) (aCons (eGive 4) aNil))))
      (sSetX 2 (xOp dAddX (eVar 2) (eX (xM (eLst (aCons (eGive 4) (aCons (eGive 5) (aCons (eX (xCall m__law_bent_text (aCons (eVar 1) (aCons (eGive 5) aNil)))) aNil)))))))))))
      (sSeq (sFor (wAny (eGive 2)) (gN 4) (sIf (tVal (eOp dNe (eCa cRepr (aCons (eX (xCall m__law_heard (aCons (eGive 4) aNil))) aNil)) (eCa cRepr (aCons (eX (xCall m__law_rows_due (aCons (eGive 4) aNil))) aNil)))) (sRetX (xE (eC (.bool false)))) sNext))
      (sRetX (xE (eC (.bool true))))))))
/-! ### what stands behind the top -/
structure Txt (P : Program) (w : World) (K : PySem.W.Frag) (mg : Str → Option Value) (base : Heap) where
  dummy : Unit
  a_slot_in : Addr
  d_slot_in : FuncData
  f_slot_in : Fun K "slot_in" "slot_in" s_slot_in a_slot_in d_slot_in
  g_slot_in : mg "slot_in" = some (.ref a_slot_in)
  b_slot_in : Binds K d_slot_in ["word"] []
  a_item_in : Addr
  d_item_in : FuncData
  f_item_in : Fun K "item_in" "item_in" s_item_in a_item_in d_item_in
  g_item_in : mg "item_in" = some (.ref a_item_in)
  b_item_in : Binds K d_item_in ["word"] []
  a_parse_redirections : Addr
  d_parse_redirections : FuncData
  f_parse_redirections : Fun K "parse_redirections" "parse_redirections" s_parse_redirections a_parse_redirections d_parse_redirections
  g_parse_redirections : mg "parse_redirections" = some (.ref a_parse_redirections)
  b_parse_redirections : Binds K d_parse_redirections ["text"] []
  a__law_make_deck : Addr
  d__law_make_deck : FuncData
  f__law_make_deck : Fun K "_law_make_deck" "_law_make_deck" s__law_make_deck a__law_make_deck d__law_make_deck
  g__law_make_deck : mg "_law_make_deck" = some (.ref a__law_make_deck)
  b__law_make_deck : Binds K d__law_make_deck ["_law_script"] []
  a__law_draw : Addr
  d__law_draw : FuncData
  f__law_draw : Fun K "_law_draw" "_law_draw" s__law_draw a__law_draw d__law_draw
  g__law_draw : mg "_law_draw" = some (.ref a__law_draw)
  b__law_draw : Binds K d__law_draw ["_law_deck", "_law_bound"] []
  a__law_number_due : Addr
  d__law_number_due : FuncData
  f__law_number_due : Fun K "_law_number_due" "_law_number_due" s__law_number_due a__law_number_due d__law_number_due
  g__law_number_due : mg "_law_number_due" = some (.ref a__law_number_due)
  b__law_number_due : Binds K d__law_number_due ["_law_word"] []
  a__law_rows_due : Addr
  d__law_rows_due : FuncData
  f__law_rows_due : Fun K "_law_rows_due" "_law_rows_due" s__law_rows_due a__law_rows_due d__law_rows_due
  g__law_rows_due : mg "_law_rows_due" = some (.ref a__law_rows_due)
  b__law_rows_due : Binds K d__law_rows_due ["_law_line"] []
  a__law_heard : Addr
  d__law_heard : FuncData
  f__law_heard : Fun K "_law_heard" "_law_heard" s__law_heard a__law_heard d__law_heard
  g__law_heard : mg "_law_heard" = some (.ref a__law_heard)
  b__law_heard : Binds K d__law_heard ["_law_line"] []
  a__law_drawn_text : Addr
  d__law_drawn_text : FuncData
  f__law_drawn_text : Fun K "_law_drawn_text" "_law_drawn_text" s__law_drawn_text a__law_drawn_text d__law_drawn_text
  g__law_drawn_text : mg "_law_drawn_text" = some (.ref a__law_drawn_text)
  b__law_drawn_text : Binds K d__law_drawn_text ["_law_deck"] []
  a__law_bent_text : Addr
  d__law_bent_text : FuncData
  f__law_bent_text : Fun K "_law_bent_text" "_law_bent_text" s__law_bent_text a__law_bent_text d__law_bent_text
  g__law_bent_text : mg "_law_bent_text" = some (.ref a__law_bent_text)
  b__law_bent_text : Binds K d__law_bent_text ["_law_deck", "_law_line"] []
  n_abs : mg "abs" = none
  n_all : mg "all" = none
  n_int : mg "int" = none
  n_isinstance : mg "isinstance" = none
  n_len : mg "len" = none
  n_list : mg "list" = none
  n_range : mg "range" = none
  n_repr : mg "repr" = none
  n_str : mg "str" = none
  t_MOST_ITEMS : Tok
  c_MOST_ITEMS : mg "MOST_ITEMS" = some (.int 200 t_MOST_ITEMS)
  t_MOST_DIGITS : Tok
  c_MOST_DIGITS : mg "MOST_DIGITS" = some (.int 3 t_MOST_DIGITS)
  t_DIGITS : Tok
  c_DIGITS : mg "DIGITS" = some (.str "0123456789" t_DIGITS)
  t_TO : Tok
  c_TO : mg "TO" = some (.str ">&" t_TO)
  t_FREED : Tok
  c_FREED : mg "FREED" = some (.str "-" t_FREED)
  c_InvalidText : Addr
  i_InvalidText : Addr
  c_TableError : Addr
  gc_TableError : mg "TableError" = some (.ref c_TableError)
  hd_TableError : PySem.W.hasDictIn K c_TableError = true
  ty_TableError : PySem.W.typeIn K (.ref c_TableError) = some (.type "type")
  ex_TableError : PySem.W.subIn K (.ref c_TableError) (.type "BaseException") = some true
  c_FreeSlot : Addr
  gc_FreeSlot : mg "FreeSlot" = some (.ref c_FreeSlot)
  hd_FreeSlot : PySem.W.hasDictIn K c_FreeSlot = true
  ty_FreeSlot : PySem.W.typeIn K (.ref c_FreeSlot) = some (.type "type")
  ex_FreeSlot : PySem.W.subIn K (.ref c_FreeSlot) (.type "BaseException") = some true
  c_TableFull : Addr
  gc_TableFull : mg "TableFull" = some (.ref c_TableFull)
  hd_TableFull : PySem.W.hasDictIn K c_TableFull = true
  ty_TableFull : PySem.W.typeIn K (.ref c_TableFull) = some (.type "type")
  ex_TableFull : PySem.W.subIn K (.ref c_TableFull) (.type "BaseException") = some true
  c_InvalidRow : Addr
  gc_InvalidRow : mg "InvalidRow" = some (.ref c_InvalidRow)
  hd_InvalidRow : PySem.W.hasDictIn K c_InvalidRow = true
  ty_InvalidRow : PySem.W.typeIn K (.ref c_InvalidRow) = some (.type "type")
  ex_InvalidRow : PySem.W.subIn K (.ref c_InvalidRow) (.type "BaseException") = some true
  c_InvalidScript : Addr
  gc_InvalidScript : mg "InvalidScript" = some (.ref c_InvalidScript)
  hd_InvalidScript : PySem.W.hasDictIn K c_InvalidScript = true
  ty_InvalidScript : PySem.W.typeIn K (.ref c_InvalidScript) = some (.type "type")
  ex_InvalidScript : PySem.W.subIn K (.ref c_InvalidScript) (.type "BaseException") = some true
  c_InvalidTable : Addr
  gc_InvalidTable : mg "InvalidTable" = some (.ref c_InvalidTable)
  hd_InvalidTable : PySem.W.hasDictIn K c_InvalidTable = true
  ty_InvalidTable : PySem.W.typeIn K (.ref c_InvalidTable) = some (.type "type")
  ex_InvalidTable : PySem.W.subIn K (.ref c_InvalidTable) (.type "BaseException") = some true
  ns_InvalidText : PySem.W.nsIn K mainGlobals "InvalidText" = some (some (.ref c_InvalidText))
  x_InvalidText : XN.XT K mg "InvalidText" mroVE "ValueError.__new__" c_InvalidText i_InvalidText
  ec_InvalidText : ExcC K c_InvalidText
  xf_c_InvalidText : XfC K c_InvalidText
  sub_InvalidText_InvalidText : PySem.W.subIn K (.ref c_InvalidText) (.ref c_InvalidText) = some true
  sub_InvalidText_TableError : PySem.W.subIn K (.ref c_InvalidText) (.ref c_TableError) = some true
  sub_InvalidText_FreeSlot : PySem.W.subIn K (.ref c_InvalidText) (.ref c_FreeSlot) = some false
  sub_InvalidText_TableFull : PySem.W.subIn K (.ref c_InvalidText) (.ref c_TableFull) = some false
  sub_InvalidText_InvalidRow : PySem.W.subIn K (.ref c_InvalidText) (.ref c_InvalidRow) = some false
  sub_InvalidText_InvalidScript : PySem.W.subIn K (.ref c_InvalidText) (.ref c_InvalidScript) = some false
  sub_InvalidText_InvalidTable : PySem.W.subIn K (.ref c_InvalidText) (.ref c_InvalidTable) = some false
section
variable {P : Program} {w : World} {K : PySem.W.Frag} {mg : Str → Option Value} {base : Heap}
theorem Txt.isx_InvalidText (T : Txt P w K mg base) : ∀ nm b C, isxk_InvalidText nm = some b → PySem.W.nsIn K mainGlobals nm = some (some (.ref C)) → ExcC K C ∧ PySem.W.kitOne K (.ref C) (.ref T.c_InvalidText) = some b := by
  intro nm b C h hC
  unfold isxk_InvalidText at h
  split at h
  · rename_i e; subst e; cases h; rw [T.ns_InvalidText] at hC; cases hC
    exact ⟨T.ec_InvalidText, kit_own T.x_InvalidText.hdC T.x_InvalidText.tyC T.sub_InvalidText_InvalidText T.sub_InvalidText_InvalidText⟩
  · cases h
theorem Txt.isx_TableError (T : Txt P w K mg base) : ∀ nm b C, isxk_TableError nm = some b → PySem.W.nsIn K mainGlobals nm = some (some (.ref C)) → ExcC K C ∧ PySem.W.kitOne K (.ref C) (.ref T.c_TableError) = some b := by
  intro nm b C h hC
  unfold isxk_TableError at h
  split at h
  · rename_i e; subst e; cases h; rw [T.ns_InvalidText] at hC; cases hC
    exact ⟨T.ec_InvalidText, kit_own T.hd_TableError T.ty_TableError T.sub_InvalidText_InvalidText T.sub_InvalidText_TableError⟩
  · cases h
theorem Txt.isx_InvalidRow_InvalidScript_InvalidTable (T : Txt P w K mg base) : ∀ nm b C, isxk_InvalidRow_InvalidScript_InvalidTable nm = some b → PySem.W.nsIn K mainGlobals nm = some (some (.ref C)) → ExcC K C ∧ PySem.W.kitAny K (.ref C) (([T.c_InvalidRow, T.c_InvalidScript, T.c_InvalidTable] : List Addr).map Value.ref) = some b := by
  intro nm b C h hC
  unfold isxk_InvalidRow_InvalidScript_InvalidTable at h
  split at h
  · rename_i e; subst e; cases h; rw [T.ns_InvalidText] at hC; cases hC
    exact ⟨T.ec_InvalidText, (kitAnyC (kit_own T.hd_InvalidRow T.ty_InvalidRow T.sub_InvalidText_InvalidText T.sub_InvalidText_InvalidRow) (kitAnyC (kit_own T.hd_InvalidScript T.ty_InvalidScript T.sub_InvalidText_InvalidText T.sub_InvalidText_InvalidScript) (kitAnyC (kit_own T.hd_InvalidTable T.ty_InvalidTable T.sub_InvalidText_InvalidText T.sub_InvalidText_InvalidTable) kitAny0)))⟩
  · cases h
theorem Txt.te_TableError_FreeSlot_TableFull (T : Txt P w K mg base) : ∀ nm C, (["InvalidText"] : List Str).contains nm = true → PySem.W.nsIn K mainGlobals nm = some (some (.ref C)) → PySem.W.exmAny K (.ref C) [.ref T.c_TableError, .ref T.c_FreeSlot, .ref T.c_TableFull] = some true := by
  intro nm C h hC
  have h2 : nm = "InvalidText" := by simpa using h
  rcases h2 with rfl
  · rw [T.ns_InvalidText] at hC; cases hC
    exact (exmC (PySem.W.exm_ref T.ex_TableError T.hd_TableError T.ty_TableError T.sub_InvalidText_TableError) (exmC (PySem.W.exm_ref T.ex_FreeSlot T.hd_FreeSlot T.ty_FreeSlot T.sub_InvalidText_FreeSlot) (exmC (PySem.W.exm_ref T.ex_TableFull T.hd_TableFull T.ty_TableFull T.sub_InvalidText_TableFull) exm0)))
theorem Txt.xf_line (T : Txt P w K mg base) : ∀ nm C, (["InvalidText"] : List Str).contains nm = true → PySem.W.nsIn K mainGlobals nm = some (some (.ref C)) → XfC K C ∧ PySem.W.findIn K (.ref C) "line" = some none := by
  intro nm C h hC
  have h2 : nm = "InvalidText" := by simpa using h
  subst h2; rw [T.ns_InvalidText] at hC; cases hC
  exact ⟨T.xf_c_InvalidText, T.x_InvalidText.noN⟩
/-! ### each def keeps its promise -/
theorem Txt.ok_slot_in (T : Txt P w K mg base) : FnG P w K mg base CX0 1 T.a_slot_in T.d_slot_in ["word"] (spD K 1 m_slot_in) := by
  refine fnD T.f_slot_in sc_slot_in fun cdv A outer s H E hg hr => ?_
  have hu64 := hr.units
  have hu65 := room65 hr
  exact ⟨_, (pss_cons (ps_if (PW.pt (pw_or (pt_not (pt_chain op_le op_le pe_int (pe_callB call_lenA (by rfl) T.n_len (by decide +kernel) (pa_cons (pv 0) pa_nil)) (pe_gint (by rfl) T.c_MOST_DIGITS))) (pw_or1 (pt_not (pt_val (pe_callB (cr_all rfl) (by rfl) T.n_all (by decide +kernel) (pa_cons (pe_lc (own := [("sign", 1)]) rfl sc_slot_in.nd (pi_any (pv 0)) (blkOk_by (N := N_slot_in) (sc := defScope s_slot_in) (by decide +kernel)) (fun _ _ _ _ _ => (pg_name (i := 1) sc_slot_in.nd rfl (by first | exact Or.inl rfl | exact Or.inr rfl))) (fun _ _ _ _ _ => pts_nil) (fun _ _ _ _ _ => (pe_cmpR (op_inA hu65) (pv 1) (pe_gstr (by rfl) T.c_DIGITS) rfl))) pa_nil))))))) (pss_one (ps_ret pe_non)) pss_nil)
      (pss_one (ps_ret (pe_ifExp (pt_cmpR (op_eqA hu64) (pe_callTy call_strA (by rfl) T.n_str (by decide +kernel) (pa_cons (pe_callTy call_intA (by rfl) T.n_int (by decide +kernel) (pa_cons (pv 0) pa_nil)) pa_nil)) (pv 0) (nomark _)) (pe_callTy call_intA (by rfl) T.n_int (by decide +kernel) (pa_cons (pv 0) pa_nil)) pe_non)))),
    (is_seq (is_if (it_or (it_not (it_test (ie_chain od_le od_le ie_int (ie_cb cd_len (ia_cons (ie_var (i := 0)) ia_nil)) (ie_int (i := 3))))) (it_not (it_B (ie_cb cd_all (ia_cons (ie_x (ix_m (im_comp (iw_any (ie_give (i := 0))) (ig_name (i := 1)) it_yes (ie_op od_in (ie_var (i := 1)) (ie_str (x := "0123456789"))) (by decide)))) ia_nil))))) (is_retX (ix_e ie_non)) is_next)
      (is_retX (ix_if (it_test (ie_op od_eq (ie_cb cd_str (ia_cons (ie_cb cd_int (ia_cons (ie_var (i := 0)) ia_nil)) ia_nil)) (ie_var (i := 0)))) (ix_e (ie_cb cd_int (ia_cons (ie_var (i := 0)) ia_nil))) (ix_e ie_non))))⟩
theorem Txt.ok_item_in (T : Txt P w K mg base) : FnG P w K mg base CX0 2 T.a_item_in T.d_item_in ["word"] (spD K 1 m_item_in) := by
  refine fnD T.f_item_in sc_item_in fun cdv A outer s H E hg hr => ?_
  have hu64 := hr.units
  have hu65 := room65 hr
  exact ⟨_, (pss_cons (ps_asg (pe_bm PySem.F.plainAttrs_str PySem.F.slot_str_partition PySem.F.type_str_partition mt_partition (pv 0) (pa_cons (pe_gstr (by rfl) T.c_TO) pa_nil)) (pg_tup rfl (pgs_cons (pg_name (i := 1) sc_item_in.nd rfl (by first | exact Or.inl rfl | exact Or.inr rfl)) (pgs_cons (pg_name (i := 2) sc_item_in.nd rfl (by first | exact Or.inl rfl | exact Or.inr rfl)) (pgs_cons (pg_name (i := 3) sc_item_in.nd rfl (by first | exact Or.inl rfl | exact Or.inr rfl)) pgs_nil)))))
      (pss_cons (ps_set (i := 4) sc_item_in.nd rfl (by first | exact Or.inl rfl | exact Or.inr rfl) (pe_callG T.ok_slot_in hg (hr.mono (by decide)) (by rfl) T.g_slot_in T.f_slot_in.kp T.b_slot_in .nil pass0 (pa_cons (pv 1) pa_nil)))
      (pss_cons (ps_if (PW.pt (pw_or (pt_cmpR (op_eqA hu64) (pv 2) pe_str (nomark _)) (pw_or1 (pt_cmp (pc_isN (pv 4)))))) (pss_one (ps_ret pe_non)) pss_nil)
      (pss_cons (ps_if (pt_cmpR (op_eqA hu64) (pv 3) (pe_gstr (by rfl) T.c_FREED) (nomark _)) (pss_one (ps_ret (pe_tup (pa_cons (pv 4) (pa_cons pe_non pa_nil))))) pss_nil)
      (pss_cons (ps_set (i := 5) sc_item_in.nd rfl (by first | exact Or.inl rfl | exact Or.inr rfl) (pe_callG T.ok_slot_in hg (hr.mono (by decide)) (by rfl) T.g_slot_in T.f_slot_in.kp T.b_slot_in .nil pass0 (pa_cons (pv 3) pa_nil)))
      (pss_one (ps_ret (pe_ifExp (pt_cmp (pc_isN (pv 5))) pe_non (pe_tup (pa_cons (pv 4) (pa_cons (pv 5) pa_nil))))))))))),
    (is_seq (is_asg (ie_bm (Ty := "str") bm_part (ie_var (i := 0)) (ia_cons (ie_str (x := ">&")) ia_nil)) (ig_tup (n := 3) (igs_cons (ig_name (i := 1)) (igs_cons (ig_name (i := 2)) (igs_cons (ig_name (i := 3)) igs_nil)))))
      (is_seq (is_setX (i := 4) (ix_call (ia_cons (ie_give (i := 1)) ia_nil) (len_cons len_nil)))
      (is_seq (is_if (it_or (it_test (ie_op od_eq (ie_var (i := 2)) ie_str)) (it_B (ie_isN (ie_var (i := 4))))) (is_retX (ix_e ie_non)) is_next)
      (is_seq (is_if (it_test (ie_op od_eq (ie_var (i := 3)) (ie_str (x := "-")))) (is_retX (ix_e (ie_tup (ia_cons (ie_give (i := 4)) (ia_cons ie_non ia_nil))))) is_next)
      (is_seq (is_setX (i := 5) (ix_call (ia_cons (ie_give (i := 3)) ia_nil) (len_cons len_nil)))
      (is_retX (ix_if (it_B (ie_isN (ie_var (i := 5)))) (ix_e ie_non) (ix_e (ie_tup (ia_cons (ie_give (i := 4)) (ia_cons (ie_give (i := 5)) ia_nil)))))))))))⟩
theorem Txt.ok_parse_redirections (T : Txt P w K mg base) : FnG P w K mg base (L2.CX P w) 3 T.a_parse_redirections T.d_parse_redirections ["text"] (spX K 1 m_parse_redirections) := by
  refine fnY T.f_parse_redirections sc_parse_redirections fun cdv A outer s H E hg hr => ?_
  have hu64 := hr.units
  have hu65 := room65 hr
  exact ⟨_, fun W tkW => (pss_cons (ps_if (pt_not (pt_val (pe_callB call_isi (by rfl) T.n_isinstance (by decide +kernel) (pa_cons (pv 0) (pa_cons (pe_bty "str" (by rfl) T.n_str (by decide +kernel)) pa_nil))))) (pss_one (ps_rzVline T.x_InvalidText rfl hr tkW (pa_cons pe_int pa_nil) (by rfl))) pss_nil)
      (pss_cons (ps_set (i := 1) sc_parse_redirections.nd rfl (by first | exact Or.inl rfl | exact Or.inr rfl) (pe_ifExp (pt_cmpR (op_neA hu64) (pv 0) pe_str (nomark _)) (pe_lc (own := [("word", 2)]) rfl sc_parse_redirections.nd (pi_any (pe_bm PySem.F.plainAttrs_str PySem.F.slot_str_split PySem.F.type_str_split mt_split (pv 0) (pa_cons pe_str pa_nil))) (blkOk_by (N := N_parse_redirections) (sc := defScope s_parse_redirections) (by decide +kernel)) (fun _ _ _ _ _ => (pg_name (i := 2) sc_parse_redirections.nd rfl (by first | exact Or.inl rfl | exact Or.inr rfl))) (fun _ _ _ _ _ => pts_nil) (fun _ _ _ _ _ => (pe_callG T.ok_item_in hg (hr.mono (by decide)) (by rfl) T.g_item_in T.f_item_in.kp T.b_item_in .nil pass0 (pa_cons (pv 2) pa_nil)))) (pe_lst pa_nil)))
      (pss_cons (ps_if (PW.pt (pw_or (pt_cmpR (op_inA hu65) pe_non (pv 1) rfl) (pw_or1 (pt_cmpR op_gt (pe_callB call_lenA (by rfl) T.n_len (by decide +kernel) (pa_cons (pv 1) pa_nil)) (pe_gint (by rfl) T.c_MOST_ITEMS) (nomark _))))) (pss_one (ps_rzVline T.x_InvalidText rfl hr tkW (pa_cons pe_int pa_nil) (by rfl))) pss_nil)
      (pss_one (ps_ret (pv 1)))))),
    (isx_y (isy_seq (isy_if (it_not (it_B (ie_isi (T := "str") kis_str (ie_var (i := 0))))) (isy_rz T.ns_InvalidText (ia_cons ie_int ia_nil)) (isy_of is_next))
      (isy_seq (isy_of (is_setX (i := 1) (ix_if (it_test (ie_op od_ne (ie_var (i := 0)) ie_str)) (ix_m (im_comp (iw_any (ie_x (ix_m (im_bm (Ty := "str") bm_split (ie_var (i := 0)) (ia_cons ie_str ia_nil))))) (ig_name (i := 2)) it_yes (ie_x (ix_call (ia_cons (ie_give (i := 2)) ia_nil) (len_cons len_nil))) (by decide))) (ix_m (im_lst ia_nil)))))
      (isy_seq (isy_if (it_or (it_test (ie_op od_in ie_non (ie_var (i := 1)))) (it_test (ie_op od_gt (ie_cb cd_len (ia_cons (ie_var (i := 1)) ia_nil)) (ie_int (i := 200))))) (isy_rz T.ns_InvalidText (ia_cons ie_int ia_nil)) (isy_of is_next))
      (isy_of (is_retX (ix_e (ie_var (i := 1)))))))))⟩
theorem Txt.ok__law_make_deck (T : Txt P w K mg base) : FnG P w K mg base CX0 1 T.a__law_make_deck T.d__law_make_deck ["_law_script"] (spPen K) := by
  refine okG T.f__law_make_deck sc__law_make_deck (fun vs H Q E h => ?_) (fun cdv A outer s H vs Q E hg hr h => ?_)
  · obtain ⟨a, ns, rfl, _⟩ := h; rfl
  · exact ⟨_, pss_one (ps_ret (pe_lst (pa_cons (pe_callTy call_list_of (by rfl) T.n_list (by decide +kernel) (pa_cons (pe_slice sl_list (pv 0) po_none (po_some pe_int)) pa_nil)) (pa_cons pe_int (pa_cons pe_int pa_nil))))), pen_read h⟩
theorem Txt.ok__law_draw (T : Txt P w K mg base) : FnG P w K mg base CX0 1 T.a__law_draw T.d__law_draw ["_law_deck", "_law_bound"] (spD K 2 m__law_draw) := by
  refine fnD T.f__law_draw sc__law_draw fun cdv A outer s H E hg hr => ?_
  have hu64 := hr.units
  have hu65 := room65 hr
  exact ⟨_, (pss_cons (ps_if (pt_cmpR op_gt (pe_ix ix_seq (pv 0) pe_int (fun _ _ => rfl)) pe_int (nomark _)) (pss_cons (ps_set (i := 2) sc__law_draw.nd rfl (by first | exact Or.inl rfl | exact Or.inr rfl) (pe_op op_mod (pe_ix ix_seq (pv 0) pe_int (fun _ _ => rfl)) (pv 1)))
      (pss_cons (ps_asg (pe_op op_fdiv (pe_ix ix_seq (pv 0) pe_int (fun _ _ => rfl)) (pv 1)) (pg_sub (pv 0) pe_int set_list))
      (pss_one (ps_ret (pv 2))))) pss_nil)
      (pss_cons (ps_set (i := 3) sc__law_draw.nd rfl (by first | exact Or.inl rfl | exact Or.inr rfl) (pe_ix ix_seq (pv 0) pe_int (fun _ _ => rfl)))
      (pss_cons (ps_asg (pe_op op_addX (pv 3) pe_int) (pg_sub (pv 0) pe_int set_list))
      (pss_cons (ps_set (i := 4) sc__law_draw.nd rfl (by first | exact Or.inl rfl | exact Or.inr rfl) (pe_op op_addX (pe_op op_mul pe_int (pv 3)) pe_int))
      (pss_cons (ps_if (pt_cmpR (op_neA hu64) (pe_ix ix_seq (pv 0) pe_int (fun _ _ => rfl)) (pe_lst pa_nil) (nomark _)) (pss_one (ps_set (i := 4) sc__law_draw.nd rfl (by first | exact Or.inl rfl | exact Or.inr rfl) (pe_ix ix_seq (pe_ix ix_seq (pv 0) pe_int (fun _ _ => rfl)) (pe_op op_mod (pv 3) (pe_callB call_lenA (by rfl) T.n_len (by decide +kernel) (pa_cons (pe_ix ix_seq (pv 0) pe_int (fun _ _ => rfl)) pa_nil))) (fun _ _ => rfl)))) pss_nil)
      (pss_cons (ps_if (PW.pt (pw_and (pt_cmpR op_lt (pv 3) (pe_callB call_lenA (by rfl) T.n_len (by decide +kernel) (pa_cons (pe_ix ix_seq (pv 0) pe_int (fun _ _ => rfl)) pa_nil)) (nomark _)) (pw_and1 (pt_cmpR op_ge (pe_callB call_abs (by rfl) T.n_abs (by decide +kernel) (pa_cons (pv 4) pa_nil)) (pe_op op_pow pe_int pe_int) (nomark _))))) (pss_cons (ps_set (i := 5) sc__law_draw.nd rfl (by first | exact Or.inl rfl | exact Or.inr rfl) (pe_op op_addX (pe_op op_mul pe_int (pe_callB call_abs (by rfl) T.n_abs (by decide +kernel) (pa_cons (pv 4) pa_nil))) (pe_callTy call_intA (by rfl) T.n_int (by decide +kernel) (pa_cons (pe_cmpR op_lt (pv 4) pe_int (nomark _)) pa_nil))))
      (pss_cons (ps_asg (pe_op op_fdiv (pv 5) (pv 1)) (pg_sub (pv 0) pe_int set_list))
      (pss_one (ps_ret (pe_op op_mod (pv 5) (pv 1)))))) pss_nil)
      (pss_cons (ps_set (i := 6) sc__law_draw.nd rfl (by first | exact Or.inl rfl | exact Or.inr rfl) (pe_op op_mod (pe_op op_pow (pe_op op_addX (pe_op op_addX (pe_op op_mod (pv 4) pe_int) (pe_op op_mul pe_int (pv 3))) pe_int) pe_int) pe_int))
      (pss_cons (ps_set (i := 6) sc__law_draw.nd rfl (by first | exact Or.inl rfl | exact Or.inr rfl) (pe_op op_mod (pe_op op_pow (pe_op op_addX (pe_op op_addX (pe_op op_mul (pv 6) (pe_op op_addX (pe_op op_mul pe_int (pv 3)) pe_int)) (pe_op op_mul (pe_op op_mul pe_int (pv 3)) (pv 3))) pe_int) pe_int) pe_int))
      (pss_one (ps_ret (pe_op op_mod (pe_op op_fdiv (pv 6) pe_int) (pv 1)))))))))))),
    (is_seq (is_if (it_test (ie_op od_gt (ie_op od_ix (ie_var (i := 0)) ie_int) ie_int)) (is_seq (is_setX (i := 2) (ix_e (ie_op od_mod (ie_op od_ix (ie_var (i := 0)) ie_int) (ie_var (i := 1)))))
      (is_seq (is_put (i := 0) sd_setL ie_int (ie_op od_div (ie_op od_ix (ie_var (i := 0)) ie_int) (ie_var (i := 1))))
      (is_retX (ix_e (ie_var (i := 2)))))) is_next)
      (is_seq (is_setX (i := 3) (ix_e (ie_op od_ix (ie_var (i := 0)) ie_int)))
      (is_seq (is_put (i := 0) sd_setL ie_int (ie_x (ix_op ox_add (ie_var (i := 3)) ie_int)))
      (is_seq (is_setX (i := 4) (ix_op ox_add (ie_op od_mul ie_int (ie_var (i := 3))) ie_int))
      (is_seq (is_if (it_test (ie_op od_ne (ie_op od_ix (ie_var (i := 0)) ie_int) (ie_x (ix_m (im_lst ia_nil))))) (is_setX (i := 4) (ix_e (ie_op od_ix (ie_op od_ix (ie_var (i := 0)) ie_int) (ie_op od_mod (ie_var (i := 3)) (ie_cb cd_len (ia_cons (ie_op od_ix (ie_var (i := 0)) ie_int) ia_nil)))))) is_next)
      (is_seq (is_if (it_and (it_test (ie_op od_lt (ie_var (i := 3)) (ie_cb cd_len (ia_cons (ie_op od_ix (ie_var (i := 0)) ie_int) ia_nil)))) (it_test (ie_op od_ge (ie_cb cd_abs (ia_cons (ie_var (i := 4)) ia_nil)) (ie_op od_pow ie_int ie_int)))) (is_seq (is_setX (i := 5) (ix_op ox_add (ie_op od_mul ie_int (ie_cb cd_abs (ia_cons (ie_var (i := 4)) ia_nil))) (ie_cb cd_int (ia_cons (ie_op od_lt (ie_var (i := 4)) ie_int) ia_nil))))
      (is_seq (is_put (i := 0) sd_setL ie_int (ie_op od_div (ie_var (i := 5)) (ie_var (i := 1))))
      (is_retX (ix_e (ie_op od_mod (ie_var (i := 5)) (ie_var (i := 1))))))) is_next)
      (is_seq (is_setX (i := 6) (ix_e (ie_op od_mod (ie_op od_pow (ie_x (ix_op ox_add (ie_x (ix_op ox_add (ie_op od_mod (ie_var (i := 4)) ie_int) (ie_op od_mul ie_int (ie_var (i := 3))))) ie_int)) ie_int) ie_int)))
      (is_seq (is_setX (i := 6) (ix_e (ie_op od_mod (ie_op od_pow (ie_x (ix_op ox_add (ie_x (ix_op ox_add (ie_op od_mul (ie_var (i := 6)) (ie_x (ix_op ox_add (ie_op od_mul ie_int (ie_var (i := 3))) ie_int))) (ie_op od_mul (ie_op od_mul ie_int (ie_var (i := 3))) (ie_var (i := 3))))) ie_int)) ie_int) ie_int)))
      (is_retX (ix_e (ie_op od_mod (ie_op od_div (ie_var (i := 6)) ie_int) (ie_var (i := 1)))))))))))))⟩
theorem Txt.ok__law_number_due (T : Txt P w K mg base) : FnG P w K mg base CX0 1 T.a__law_number_due T.d__law_number_due ["_law_word"] (spD K 1 m__law_number_due) := by
  refine fnD T.f__law_number_due sc__law_number_due fun cdv A outer s H E hg hr => ?_
  have hu64 := hr.units
  have hu65 := room65 hr
  exact ⟨_, (pss_cons (ps_if (PW.pt (pw_or (pt_cmpR (op_eqA hu64) (pv 0) pe_str (nomark _)) (pw_or (pt_cmpR op_gt (pe_callB call_lenA (by rfl) T.n_len (by decide +kernel) (pa_cons (pv 0) pa_nil)) pe_int (nomark _)) (pw_or1 (pt_cmpR (op_neA hu64) (pe_lc (own := [("_law_sign", 1)]) rfl sc__law_number_due.nd (pi_any (pv 0)) (blkOk_by (N := N__law_number_due) (sc := defScope s__law_number_due) (by decide +kernel)) (fun _ _ _ _ _ => (pg_name (i := 1) sc__law_number_due.nd rfl (by first | exact Or.inl rfl | exact Or.inr rfl))) (fun _ _ _ _ _ => (pts_one (pt_cmpR (op_notInA hu65) (pv 1) pe_str rfl))) (fun _ _ _ _ _ => (pv 1))) (pe_lst pa_nil) (nomark _)))))) (pss_one (ps_ret (pe_lst pa_nil))) pss_nil)
      (pss_one (ps_ret (pe_ifExp (PW.pt (pw_or (pt_cmpR (op_eqA hu64) (pv 0) pe_str (nomark _)) (pw_or1 (pt_cmpR (op_neA hu64) (pe_ix ix_seq (pv 0) pe_int (fun _ _ => rfl)) pe_str (nomark _))))) (pe_lst (pa_cons (pe_callTy call_intA (by rfl) T.n_int (by decide +kernel) (pa_cons (pv 0) pa_nil)) pa_nil)) (pe_lst pa_nil))))),
    (is_seq (is_if (it_or (it_test (ie_op od_eq (ie_var (i := 0)) ie_str)) (it_or (it_test (ie_op od_gt (ie_cb cd_len (ia_cons (ie_var (i := 0)) ia_nil)) ie_int)) (it_test (ie_op od_ne (ie_x (ix_m (im_comp (iw_any (ie_give (i := 0))) (ig_name (i := 1)) (it_test (ie_op od_notIn (ie_var (i := 1)) ie_str)) (ie_give (i := 1)) (by decide)))) (ie_x (ix_m (im_lst ia_nil))))))) (is_retX (ix_m (im_lst ia_nil))) is_next)
      (is_retX (ix_if (it_or (it_test (ie_op od_eq (ie_var (i := 0)) ie_str)) (it_test (ie_op od_ne (ie_op od_ix (ie_var (i := 0)) ie_int) ie_str))) (ix_m (im_lst (ia_cons (ie_cb cd_int (ia_cons (ie_var (i := 0)) ia_nil)) ia_nil))) (ix_m (im_lst ia_nil)))))⟩
theorem Txt.ok__law_rows_due (T : Txt P w K mg base) : FnG P w K mg base CX0 2 T.a__law_rows_due T.d__law_rows_due ["_law_line"] (spD K 1 m__law_rows_due) := by
  refine fnD T.f__law_rows_due sc__law_rows_due fun cdv A outer s H E hg hr => ?_
  have hu64 := hr.units
  have hu65 := room65 hr
  exact ⟨_, (pss_cons (ps_if (pt_not (pt_val (pe_callB call_isi (by rfl) T.n_isinstance (by decide +kernel) (pa_cons (pv 0) (pa_cons (pe_bty "str" (by rfl) T.n_str (by decide +kernel)) pa_nil))))) (pss_one (ps_ret (pe_lst pa_nil))) pss_nil)
      (pss_cons (ps_set (i := 1) sc__law_rows_due.nd rfl (by first | exact Or.inl rfl | exact Or.inr rfl) (pe_lst pa_nil))
      (pss_cons (ps_for PassesOwn.never rfl (pi_any (pe_ifExp (pt_cmpR (op_eqA hu64) (pv 0) pe_str (nomark _)) (pe_lst pa_nil) (pe_bm PySem.F.plainAttrs_str PySem.F.slot_str_split PySem.F.type_str_split mt_split (pv 0) (pa_cons pe_str pa_nil)))) (pg_name (i := 2) sc__law_rows_due.nd rfl (by first | exact Or.inl rfl | exact Or.inr rfl)) (pss_cons (ps_set (i := 3) sc__law_rows_due.nd rfl (by first | exact Or.inl rfl | exact Or.inr rfl) (pe_bm PySem.F.plainAttrs_str PySem.F.slot_str_split PySem.F.type_str_split mt_split (pv 2) (pa_cons pe_str pa_nil)))
      (pss_cons (ps_if (PW.pt (pw_or (pt_cmpR (op_neA hu64) (pe_callB call_lenA (by rfl) T.n_len (by decide +kernel) (pa_cons (pv 3) pa_nil)) pe_int (nomark _)) (pw_or1 (pt_cmpR (op_eqA hu64) (pe_callG T.ok__law_number_due hg (hr.mono (by decide)) (by rfl) T.g__law_number_due T.f__law_number_due.kp T.b__law_number_due .nil pass0 (pa_cons (pe_ix ix_seq (pv 3) pe_int (fun _ _ => rfl)) pa_nil)) (pe_lst pa_nil) (nomark _))))) (pss_one (ps_ret (pe_lst pa_nil))) pss_nil)
      (pss_cons (ps_if (PW.pt (pw_and (pt_cmpR (op_neA hu64) (pe_ix ix_seq (pv 3) pe_int (fun _ _ => rfl)) pe_str (nomark _)) (pw_and1 (pt_cmpR (op_eqA hu64) (pe_callG T.ok__law_number_due hg (hr.mono (by decide)) (by rfl) T.g__law_number_due T.f__law_number_due.kp T.b__law_number_due .nil pass0 (pa_cons (pe_ix ix_seq (pv 3) pe_int (fun _ _ => rfl)) pa_nil)) (pe_lst pa_nil) (nomark _))))) (pss_one (ps_ret (pe_lst pa_nil))) pss_nil)
      (pss_one (ps_expr (pe_bm PySem.F.plainAttrs_list PySem.F.slot_list_append PySem.F.type_list_append mt_append (pv 1) (pa_cons (pe_tup (pa_cons (pe_ix ix_seq (pe_callG T.ok__law_number_due hg (hr.mono (by decide)) (by rfl) T.g__law_number_due T.f__law_number_due.kp T.b__law_number_due .nil pass0 (pa_cons (pe_ix ix_seq (pv 3) pe_int (fun _ _ => rfl)) pa_nil)) pe_int (fun _ _ => rfl)) (pa_cons (pe_ix ix_seq (pe_op op_addX (pe_callG T.ok__law_number_due hg (hr.mono (by decide)) (by rfl) T.g__law_number_due T.f__law_number_due.kp T.b__law_number_due .nil pass0 (pa_cons (pe_ix ix_seq (pv 3) pe_int (fun _ _ => rfl)) pa_nil)) (pe_lst (pa_cons pe_non pa_nil))) pe_int (fun _ _ => rfl)) pa_nil))) pa_nil))))))))
      (pss_one (ps_ret (pe_ifExp (pt_cmpR op_lt (pe_callB call_lenA (by rfl) T.n_len (by decide +kernel) (pa_cons (pv 1) pa_nil)) pe_int (nomark _)) (pe_lst (pa_cons (pv 1) pa_nil)) (pe_lst pa_nil))))))),
    (is_seq (is_if (it_not (it_B (ie_isi (T := "str") kis_str (ie_var (i := 0))))) (is_retX (ix_m (im_lst ia_nil))) is_next)
      (is_seq (is_setX (i := 1) (ix_m (im_lst ia_nil)))
      (is_seq (is_for (iw_any (ie_x (ix_if (it_test (ie_op od_eq (ie_var (i := 0)) ie_str)) (ix_m (im_lst ia_nil)) (ix_m (im_bm (Ty := "str") bm_split (ie_var (i := 0)) (ia_cons ie_str ia_nil)))))) (ig_name (i := 2)) (is_seq (is_setX (i := 3) (ix_m (im_bm (Ty := "str") bm_split (ie_var (i := 2)) (ia_cons ie_str ia_nil))))
      (is_seq (is_if (it_or (it_test (ie_op od_ne (ie_cb cd_len (ia_cons (ie_var (i := 3)) ia_nil)) ie_int)) (it_test (ie_op od_eq (ie_x (ix_call (ia_cons (ie_op od_ix (ie_var (i := 3)) ie_int) ia_nil) (len_cons len_nil))) (ie_x (ix_m (im_lst ia_nil)))))) (is_retX (ix_m (im_lst ia_nil))) is_next)
      (is_seq (is_if (it_and (it_test (ie_op od_ne (ie_op od_ix (ie_var (i := 3)) ie_int) ie_str)) (it_test (ie_op od_eq (ie_x (ix_call (ia_cons (ie_op od_ix (ie_var (i := 3)) ie_int) ia_nil) (len_cons len_nil))) (ie_x (ix_m (im_lst ia_nil)))))) (is_retX (ix_m (im_lst ia_nil))) is_next)
      (is_drop (ie_mt (i := 1) md_app (ia_cons (ie_tup (ia_cons (ie_op od_ix (ie_x (ix_call (ia_cons (ie_op od_ix (ie_var (i := 3)) ie_int) ia_nil) (len_cons len_nil))) ie_int) (ia_cons (ie_op od_ix (ie_x (ix_op ox_add (ie_x (ix_call (ia_cons (ie_op od_ix (ie_var (i := 3)) ie_int) ia_nil) (len_cons len_nil))) (ie_x (ix_m (im_lst (ia_cons ie_non ia_nil)))))) ie_int) ia_nil))) ia_nil)))))))
      (is_retX (ix_if (it_test (ie_op od_lt (ie_cb cd_len (ia_cons (ie_var (i := 1)) ia_nil)) ie_int)) (ix_m (im_lst (ia_cons (ie_give (i := 1)) ia_nil))) (ix_m (im_lst ia_nil)))))))⟩
theorem Txt.ok__law_heard (T : Txt P w K mg base) : FnG P w K mg base CX0 4 T.a__law_heard T.d__law_heard ["_law_line"] (spD K 1 m__law_heard) := by
  refine fnD T.f__law_heard sc__law_heard fun cdv A outer s H E hg hr => ?_
  have hu64 := hr.units
  have hu65 := room65 hr
  exact ⟨_, (pss_cons (ps_set (i := 1) sc__law_heard.nd rfl (by first | exact Or.inl rfl | exact Or.inr rfl) pe_non)
      (pss_cons (ps_tryG (i := 2) (cs := [.ref T.c_TableError, .ref T.c_FreeSlot, .ref T.c_TableFull]) rfl rfl rfl sc__law_heard.nd rfl rfl (Nat.le_of_ble_eq_true rfl) (.cons ⟨by rfl, by decide, Or.inl T.gc_TableError⟩ (.cons ⟨by rfl, by decide, Or.inl T.gc_FreeSlot⟩ (.cons ⟨by rfl, by decide, Or.inl T.gc_TableFull⟩ .nil))) (fun W pn xe tkW _ => (pss_one (ps_ret (pe_lst (pa_cons (pe_callXS T.ok_parse_redirections hg (hr.mono (by decide)) (by rfl) T.g_parse_redirections T.f_parse_redirections.kp T.b_parse_redirections .nil tkW (pa_cons (pv 0) pa_nil)) pa_nil))))) (fun a pn => (pss_one (ps_set (i := 1) sc__law_heard.nd rfl (by first | exact Or.inl rfl | exact Or.inr rfl) (pv 2)))))
      (pss_cons (ps_if (PW.pt (pw_or (pt_not (pt_val (pe_callB call_isX (by rfl) T.n_isinstance (by decide +kernel) (pa_cons (pv 1) (pa_cons (pe_gcls (by rfl) T.x_InvalidText.gC) pa_nil))))) (pw_or1 (pt_val (pe_callB call_isXT (by rfl) T.n_isinstance (by decide +kernel) (pa_cons (pv 1) (pa_cons (pe_tup (pa_cons (pe_gcls (by rfl) T.gc_InvalidRow) (pa_cons (pe_gcls (by rfl) T.gc_InvalidScript) (pa_cons (pe_gcls (by rfl) T.gc_InvalidTable) pa_nil)))) pa_nil))))))) (pss_one (ps_ret pe_non)) pss_nil)
      (pss_one (ps_ret (pe_ifExp (PW.pt (pw_and (pt_cmpR (op_eqA hu64) (pe_callB (call_repr hg hu64) (by rfl) T.n_repr (by decide +kernel) (pa_cons (pe_xF (pv 1)) pa_nil)) pe_str (nomark _)) (pw_and1 (pt_val (pe_callB call_isX (by rfl) T.n_isinstance (by decide +kernel) (pa_cons (pv 1) (pa_cons (pe_gcls (by rfl) T.gc_TableError) pa_nil))))))) (pe_lst pa_nil) pe_non)))))),
    (is_seq (is_setX (i := 1) (ix_e ie_non))
      (is_seq (is_tG (nms := ["InvalidText"]) (isy_retL (ier_call (ia_cons (ie_give (i := 0)) ia_nil) (len_cons len_nil))) (is_setX (i := 1) (ix_e (ie_give (i := 2)))) T.te_TableError_FreeSlot_TableFull)
      (is_seq (is_if (it_or (it_not (it_B (ie_isX (c := .ref T.c_InvalidText) (fun _ h => h) T.isx_InvalidText (ie_var (i := 1))))) (it_B (ie_isXT (cs := [T.c_InvalidRow, T.c_InvalidScript, T.c_InvalidTable]) (Nat.le_of_ble_eq_true rfl) T.isx_InvalidRow_InvalidScript_InvalidTable (ie_var (i := 1))))) (is_retX (ix_e ie_non)) is_next)
      (is_retX (ix_if (it_and (it_test (ie_op od_eq (ie_cb cd_repr (ia_cons (ie_xF (nms := ["InvalidText"]) T.xf_line (ie_var (i := 1))) ia_nil)) ie_str)) (it_B (ie_isX (c := .ref T.c_TableError) (fun _ h => h) T.isx_TableError (ie_var (i := 1))))) (ix_m (im_lst ia_nil)) (ix_e ie_non))))))⟩
theorem Txt.ok__law_drawn_text (T : Txt P w K mg base) : FnG P w K mg base CX0 2 T.a__law_drawn_text T.d__law_drawn_text ["_law_deck"] (spD K 1 m__law_drawn_text) := by
  refine fnD T.f__law_drawn_text sc__law_drawn_text fun cdv A outer s H E hg hr => ?_
  have hu64 := hr.units
  have hu65 := room65 hr
  exact ⟨_, (pss_cons (ps_set (i := 1) sc__law_drawn_text.nd rfl (by first | exact Or.inl rfl | exact Or.inr rfl) (pe_lst pa_nil))
      (pss_cons (ps_for PassesOwn.never rfl (pi_range1 (by rfl) T.n_range (pa_cons (pe_callG T.ok__law_draw hg (hr.mono (by decide)) (by rfl) T.g__law_draw T.f__law_draw.kp T.b__law_draw .nil pass0 (pa_cons (pv 0) (pa_cons pe_int pa_nil))) pa_nil)) (pg_name (i := 2) sc__law_drawn_text.nd rfl (by first | exact Or.inl rfl | exact Or.inr rfl)) (pss_cons (ps_set (i := 3) sc__law_drawn_text.nd rfl (by first | exact Or.inl rfl | exact Or.inr rfl) (pe_ix ix_seq (pe_lst (pa_cons (pe_callTy call_strA (by rfl) T.n_str (by decide +kernel) (pa_cons (pe_callG T.ok__law_draw hg (hr.mono (by decide)) (by rfl) T.g__law_draw T.f__law_draw.kp T.b__law_draw .nil pass0 (pa_cons (pv 0) (pa_cons pe_int pa_nil))) pa_nil)) (pa_cons (pe_callTy call_strA (by rfl) T.n_str (by decide +kernel) (pa_cons (pe_callG T.ok__law_draw hg (hr.mono (by decide)) (by rfl) T.g__law_draw T.f__law_draw.kp T.b__law_draw .nil pass0 (pa_cons (pv 0) (pa_cons pe_int pa_nil))) pa_nil)) (pa_cons pe_str (pa_cons pe_str pa_nil))))) (pe_callG T.ok__law_draw hg (hr.mono (by decide)) (by rfl) T.g__law_draw T.f__law_draw.kp T.b__law_draw .nil pass0 (pa_cons (pv 0) (pa_cons pe_int pa_nil))) (fun _ _ => rfl)))
      (pss_one (ps_expr (pe_bm PySem.F.plainAttrs_list PySem.F.slot_list_append PySem.F.type_list_append mt_append (pv 1) (pa_cons (pe_op op_addX (pe_op op_addX (pe_callTy call_strA (by rfl) T.n_str (by decide +kernel) (pa_cons (pe_ix ix_seq (pe_lst (pa_cons (pe_callG T.ok__law_draw hg (hr.mono (by decide)) (by rfl) T.g__law_draw T.f__law_draw.kp T.b__law_draw .nil pass0 (pa_cons (pv 0) (pa_cons pe_int pa_nil))) (pa_cons (pe_callG T.ok__law_draw hg (hr.mono (by decide)) (by rfl) T.g__law_draw T.f__law_draw.kp T.b__law_draw .nil pass0 (pa_cons (pv 0) (pa_cons pe_int pa_nil))) pa_nil))) (pe_callG T.ok__law_draw hg (hr.mono (by decide)) (by rfl) T.g__law_draw T.f__law_draw.kp T.b__law_draw .nil pass0 (pa_cons (pv 0) (pa_cons pe_int pa_nil))) (fun _ _ => rfl)) pa_nil)) pe_str) (pv 3)) pa_nil))))))
      (pss_one (ps_ret (pe_bm PySem.F.plainAttrs_str PySem.F.slot_str_join PySem.F.type_str_join mt_join pe_str (pa_cons (pv 1) pa_nil)))))),
    (is_seq (is_setX (i := 1) (ix_m (im_lst ia_nil)))
      (is_seq (is_for (iw_rng1 (ia_cons (ie_x (ix_call (ia_cons (ie_var (i := 0)) (ia_cons ie_int ia_nil)) (len_cons (len_cons len_nil)))) ia_nil)) (ig_name (i := 2)) (is_seq (is_setX (i := 3) (ix_e (ie_op od_ix (ie_x (ix_m (im_lst (ia_cons (ie_cb cd_str (ia_cons (ie_x (ix_call (ia_cons (ie_var (i := 0)) (ia_cons ie_int ia_nil)) (len_cons (len_cons len_nil)))) ia_nil)) (ia_cons (ie_cb cd_str (ia_cons (ie_x (ix_call (ia_cons (ie_var (i := 0)) (ia_cons ie_int ia_nil)) (len_cons (len_cons len_nil)))) ia_nil)) (ia_cons ie_str (ia_cons ie_str ia_nil))))))) (ie_x (ix_call (ia_cons (ie_var (i := 0)) (ia_cons ie_int ia_nil)) (len_cons (len_cons len_nil)))))))
      (is_drop (ie_mt (i := 1) md_app (ia_cons (ie_x (ix_op ox_add (ie_x (ix_op ox_add (ie_cb cd_str (ia_cons (ie_op od_ix (ie_x (ix_m (im_lst (ia_cons (ie_x (ix_call (ia_cons (ie_var (i := 0)) (ia_cons ie_int ia_nil)) (len_cons (len_cons len_nil)))) (ia_cons (ie_x (ix_call (ia_cons (ie_var (i := 0)) (ia_cons ie_int ia_nil)) (len_cons (len_cons len_nil)))) ia_nil))))) (ie_x (ix_call (ia_cons (ie_var (i := 0)) (ia_cons ie_int ia_nil)) (len_cons (len_cons len_nil))))) ia_nil)) ie_str)) (ie_var (i := 3)))) ia_nil)))))
      (is_retX (ix_e (ie_bm (Ty := "str") bm_join ie_str (ia_cons (ie_var (i := 1)) ia_nil))))))⟩
theorem Txt.ok__law_bent_text (T : Txt P w K mg base) : FnG P w K mg base CX0 2 T.a__law_bent_text T.d__law_bent_text ["_law_deck", "_law_line"] (spD K 2 m__law_bent_text) := by
  refine fnD T.f__law_bent_text sc__law_bent_text fun cdv A outer s H E hg hr => ?_
  have hu64 := hr.units
  have hu65 := room65 hr
  exact ⟨_, (pss_cons (ps_set (i := 2) sc__law_bent_text.nd rfl (by first | exact Or.inl rfl | exact Or.inr rfl) (pe_callG T.ok__law_draw hg (hr.mono (by decide)) (by rfl) T.g__law_draw T.f__law_draw.kp T.b__law_draw .nil pass0 (pa_cons (pv 0) (pa_cons (pe_op op_addX (pe_callB call_lenA (by rfl) T.n_len (by decide +kernel) (pa_cons (pv 1) pa_nil)) pe_int) pa_nil))))
      (pss_cons (ps_set (i := 3) sc__law_bent_text.nd rfl (by first | exact Or.inl rfl | exact Or.inr rfl) (pe_op op_addX pe_str pe_str))
      (pss_cons (ps_set (i := 4) sc__law_bent_text.nd rfl (by first | exact Or.inl rfl | exact Or.inr rfl) (pe_ix ix_seq (pe_lst (pa_cons (pe_ix ix_seq (pv 3) (pe_callG T.ok__law_draw hg (hr.mono (by decide)) (by rfl) T.g__law_draw T.f__law_draw.kp T.b__law_draw .nil pass0 (pa_cons (pv 0) (pa_cons pe_int pa_nil))) (fun _ _ => rfl)) (pa_cons pe_str (pa_cons pe_str (pa_cons pe_str (pa_cons pe_str (pa_cons pe_str (pa_cons pe_str (pa_cons pe_str pa_nil))))))))) (pe_callG T.ok__law_draw hg (hr.mono (by decide)) (by rfl) T.g__law_draw T.f__law_draw.kp T.b__law_draw .nil pass0 (pa_cons (pv 0) (pa_cons pe_int pa_nil))) (fun _ _ => rfl)))
      (pss_cons (ps_set (i := 5) sc__law_bent_text.nd rfl (by first | exact Or.inl rfl | exact Or.inr rfl) (pe_lst (pa_cons (pe_op op_addX (pe_op op_addX (pe_slice sl_any (pv 1) po_none (po_some (pv 2))) (pv 4)) (pe_slice sl_any (pv 1) (po_some (pv 2)) po_none)) (pa_cons (pe_op op_addX (pe_slice sl_any (pv 1) po_none (po_some (pv 2))) (pe_slice sl_any (pv 1) (po_some (pe_op op_addX (pv 2) pe_int)) po_none)) (pa_cons (pe_op op_addX (pe_op op_addX (pe_slice sl_any (pv 1) po_none (po_some (pv 2))) (pv 4)) (pe_slice sl_any (pv 1) (po_some (pe_op op_addX (pv 2) pe_int)) po_none)) (pa_cons (pe_slice sl_any (pv 1) po_none (po_some (pv 2))) pa_nil))))))
      (pss_cons (ps_set (i := 6) sc__law_bent_text.nd rfl (by first | exact Or.inl rfl | exact Or.inr rfl) (pe_bm PySem.F.plainAttrs_str PySem.F.slot_str_split PySem.F.type_str_split mt_split (pv 1) (pa_cons pe_str pa_nil)))
      (pss_cons (ps_set (i := 7) sc__law_bent_text.nd rfl (by first | exact Or.inl rfl | exact Or.inr rfl) (pe_callG T.ok__law_draw hg (hr.mono (by decide)) (by rfl) T.g__law_draw T.f__law_draw.kp T.b__law_draw .nil pass0 (pa_cons (pv 0) (pa_cons (pe_callB call_lenA (by rfl) T.n_len (by decide +kernel) (pa_cons (pv 6) pa_nil)) pa_nil))))
      (pss_cons (ps_set (i := 8) sc__law_bent_text.nd rfl (by first | exact Or.inl rfl | exact Or.inr rfl) (pe_lst (pa_cons pe_str (pa_cons pe_str (pa_cons pe_str (pa_cons pe_str (pa_cons pe_str (pa_cons pe_str (pa_cons pe_str (pa_cons pe_str (pa_cons pe_str pa_nil)))))))))))
      (pss_cons (ps_set (i := 8) sc__law_bent_text.nd rfl (by first | exact Or.inl rfl | exact Or.inr rfl) (pe_op op_addX (pv 8) (pe_lst (pa_cons pe_str (pa_cons pe_str (pa_cons pe_str (pa_cons pe_str pa_nil)))))))
      (pss_cons (ps_expr (pe_bm PySem.F.plainAttrs_list PySem.F.slot_list_append PySem.F.type_list_append mt_append (pv 5) (pa_cons (pe_bm PySem.F.plainAttrs_str PySem.F.slot_str_join PySem.F.type_str_join mt_join pe_str (pa_cons (pe_op op_addX (pe_op op_addX (pe_slice sl_any (pv 6) po_none (po_some (pv 7))) (pe_lst (pa_cons (pe_ix ix_seq (pv 8) (pe_callG T.ok__law_draw hg (hr.mono (by decide)) (by rfl) T.g__law_draw T.f__law_draw.kp T.b__law_draw .nil pass0 (pa_cons (pv 0) (pa_cons pe_int pa_nil))) (fun _ _ => rfl)) pa_nil))) (pe_slice sl_any (pv 6) (po_some (pe_op op_addX (pv 7) pe_int)) po_none)) pa_nil)) pa_nil)))
      (pss_cons (ps_set (i := 9) sc__law_bent_text.nd rfl (by first | exact Or.inl rfl | exact Or.inr rfl) (pe_bm PySem.F.plainAttrs_str PySem.F.slot_str_join PySem.F.type_str_join mt_join pe_str (pa_cons (pe_op op_addX (pe_op op_addX (pe_slice sl_any (pv 6) po_none (po_some (pv 7))) (pe_slice sl_any (pv 6) (po_some (pv 7)) (po_some (pe_op op_addX (pv 7) pe_int)))) (pe_slice sl_any (pv 6) (po_some (pv 7)) po_none)) pa_nil)))
      (pss_one (ps_ret (pe_ix ix_seq (pe_op op_addX (pv 5) (pe_lst (pa_cons (pe_op op_addX pe_str (pv 1)) (pa_cons (pe_op op_addX (pv 1) pe_str) (pa_cons (pe_op op_addX (pv 1) pe_str) (pa_cons (pv 9) pa_nil)))))) (pe_callG T.ok__law_draw hg (hr.mono (by decide)) (by rfl) T.g__law_draw T.f__law_draw.kp T.b__law_draw .nil pass0 (pa_cons (pv 0) (pa_cons pe_int pa_nil))) (fun _ _ => rfl)))))))))))))),
    (is_seq (is_setX (i := 2) (ix_call (ia_cons (ie_var (i := 0)) (ia_cons (ie_x (ix_op ox_add (ie_cb cd_len (ia_cons (ie_var (i := 1)) ia_nil)) ie_int)) ia_nil)) (len_cons (len_cons len_nil))))
      (is_seq (is_setX (i := 3) (ix_op ox_add ie_str ie_str))
      (is_seq (is_setX (i := 4) (ix_e (ie_op od_ix (ie_x (ix_m (im_lst (ia_cons (ie_op od_ix (ie_var (i := 3)) (ie_x (ix_call (ia_cons (ie_var (i := 0)) (ia_cons ie_int ia_nil)) (len_cons (len_cons len_nil))))) (ia_cons ie_str (ia_cons ie_str (ia_cons ie_str (ia_cons ie_str (ia_cons ie_str (ia_cons ie_str (ia_cons ie_str ia_nil))))))))))) (ie_x (ix_call (ia_cons (ie_var (i := 0)) (ia_cons ie_int ia_nil)) (len_cons (len_cons len_nil)))))))
      (is_seq (is_setX (i := 5) (ix_m (im_lst (ia_cons (ie_x (ix_op ox_add (ie_x (ix_op ox_add (ie_x (ix_sl (ie_var (i := 1)) io_none (io_some (ie_var (i := 2))))) (ie_var (i := 4)))) (ie_x (ix_sl (ie_var (i := 1)) (io_some (ie_var (i := 2))) io_none)))) (ia_cons (ie_x (ix_op ox_add (ie_x (ix_sl (ie_var (i := 1)) io_none (io_some (ie_var (i := 2))))) (ie_x (ix_sl (ie_var (i := 1)) (io_some (ie_x (ix_op ox_add (ie_var (i := 2)) ie_int))) io_none)))) (ia_cons (ie_x (ix_op ox_add (ie_x (ix_op ox_add (ie_x (ix_sl (ie_var (i := 1)) io_none (io_some (ie_var (i := 2))))) (ie_var (i := 4)))) (ie_x (ix_sl (ie_var (i := 1)) (io_some (ie_x (ix_op ox_add (ie_var (i := 2)) ie_int))) io_none)))) (ia_cons (ie_x (ix_sl (ie_var (i := 1)) io_none (io_some (ie_var (i := 2))))) ia_nil)))))))
      (is_seq (is_setX (i := 6) (ix_m (im_bm (Ty := "str") bm_split (ie_var (i := 1)) (ia_cons ie_str ia_nil))))
      (is_seq (is_setX (i := 7) (ix_call (ia_cons (ie_var (i := 0)) (ia_cons (ie_cb cd_len (ia_cons (ie_var (i := 6)) ia_nil)) ia_nil)) (len_cons (len_cons len_nil))))
      (is_seq (is_setX (i := 8) (ix_m (im_lst (ia_cons ie_str (ia_cons ie_str (ia_cons ie_str (ia_cons ie_str (ia_cons ie_str (ia_cons ie_str (ia_cons ie_str (ia_cons ie_str (ia_cons ie_str ia_nil))))))))))))
      (is_seq (is_setX (i := 8) (ix_op ox_add (ie_var (i := 8)) (ie_x (ix_m (im_lst (ia_cons ie_str (ia_cons ie_str (ia_cons ie_str (ia_cons ie_str ia_nil)))))))))
      (is_seq (is_drop (ie_mt (i := 5) md_app (ia_cons (ie_bm (Ty := "str") bm_join ie_str (ia_cons (ie_x (ix_op ox_add (ie_x (ix_op ox_add (ie_x (ix_sl (ie_var (i := 6)) io_none (io_some (ie_var (i := 7))))) (ie_x (ix_m (im_lst (ia_cons (ie_op od_ix (ie_var (i := 8)) (ie_x (ix_call (ia_cons (ie_var (i := 0)) (ia_cons ie_int ia_nil)) (len_cons (len_cons len_nil))))) ia_nil)))))) (ie_x (ix_sl (ie_var (i := 6)) (io_some (ie_x (ix_op ox_add (ie_var (i := 7)) ie_int))) io_none)))) ia_nil)) ia_nil)))
      (is_seq (is_setX (i := 9) (ix_e (ie_bm (Ty := "str") bm_join ie_str (ia_cons (ie_x (ix_op ox_add (ie_x (ix_op ox_add (ie_x (ix_sl (ie_var (i := 6)) io_none (io_some (ie_var (i := 7))))) (ie_x (ix_sl (ie_var (i := 6)) (io_some (ie_var (i := 7))) (io_some (ie_x (ix_op ox_add (ie_var (i := 7)) ie_int))))))) (ie_x (ix_sl (ie_var (i := 6)) (io_some (ie_var (i := 7))) io_none)))) ia_nil))))
      (is_retX (ix_e (ie_op od_ix (ie_x (ix_op ox_add (ie_var (i := 5)) (ie_x (ix_m (im_lst (ia_cons (ie_x (ix_op ox_add ie_str (ie_var (i := 1)))) (ia_cons (ie_x (ix_op ox_add (ie_var (i := 1)) ie_str)) (ia_cons (ie_x (ix_op ox_add (ie_var (i := 1)) ie_str)) (ia_cons (ie_give (i := 9)) ia_nil))))))))) (ie_x (ix_call (ia_cons (ie_var (i := 0)) (ia_cons ie_int ia_nil)) (len_cons (len_cons len_nil)))))))))))))))))⟩
def spLaw (K : PySem.W.Frag) : Sp := fun vs H Q _ => ∃ (a : Addr) (ns : List Int), vs = [.ref a] ∧ SqL K H a (ns.map V.int) ∧ ns.length ≤ 63 ∧ Q = fun v _ => v = .bl true
theorem Txt.ok_law (T : Txt P w K mg base) {f : Addr} {fd : FuncData} (F : Fun K "law" "law" s_law f fd)
    (hm : ∀ ns : List Int, ns.length ≤ 63 → ∃ env', b_law (penv 6 ns) = some (.rt (.val (.bool true)), env')) : FnG P w K mg base CX0 5 f fd ["_law_script"] (spLaw K) := by
  refine okG F sc_law (fun vs H Q E h => ?_) (fun cdv A outer s H vs Q E hg hr h => ?_)
  · obtain ⟨a, ns, rfl, _⟩ := h; rfl
  obtain ⟨a, ns, rfl, hS, hl, rfl⟩ := h
  have hu64 := hr.units
  have hu65 := room65 hr
  exact ⟨_, pss_cons (ps_set (i := 1) sc_law.nd rfl (by first | exact Or.inl rfl | exact Or.inr rfl) (pe_callG T.ok__law_make_deck hg (hr.mono (by decide)) (by rfl) T.g__law_make_deck T.f__law_make_deck.kp T.b__law_make_deck .nil pass0 (pa_cons (pv 0) pa_nil)))
      (pss_cons (ps_set (i := 2) sc_law.nd rfl (by first | exact Or.inl rfl | exact Or.inr rfl) (pe_lst (pa_cons pe_non (pa_cons pe_int (pa_cons (pe_lst pa_nil) (pa_cons (pe_lst (pa_cons pe_str pa_nil)) (pa_cons (pe_tup (pa_cons pe_str pa_nil)) (pa_cons pe_dnewK (pa_cons pe_bl (pa_cons pe_str (pa_cons pe_str (pa_cons pe_str (pa_cons pe_str (pa_cons pe_str (pa_cons pe_str (pa_cons pe_str pa_nil))))))))))))))))
      (pss_cons (ps_set (i := 2) sc_law.nd rfl (by first | exact Or.inl rfl | exact Or.inr rfl) (pe_op op_addX (pv 2) (pe_lst (pa_cons (pe_bm PySem.F.plainAttrs_str PySem.F.slot_str_join PySem.F.type_str_join mt_join pe_str (pa_cons (pe_op op_rep (pe_lst (pa_cons pe_str pa_nil)) pe_int) pa_nil)) (pa_cons (pe_bm PySem.F.plainAttrs_str PySem.F.slot_str_join PySem.F.type_str_join mt_join pe_str (pa_cons (pe_op op_rep (pe_lst (pa_cons pe_str pa_nil)) pe_int) pa_nil)) pa_nil)))))
      (pss_cons (ps_for PassesOwn.never rfl (pi_range1 (by rfl) T.n_range (pa_cons pe_int pa_nil)) (pg_name (i := 3) sc_law.nd rfl (by first | exact Or.inl rfl | exact Or.inr rfl)) (pss_cons (ps_set (i := 4) sc_law.nd rfl (by first | exact Or.inl rfl | exact Or.inr rfl) (pe_callG T.ok__law_drawn_text hg (hr.mono (by decide)) (by rfl) T.g__law_drawn_text T.f__law_drawn_text.kp T.b__law_drawn_text .nil pass0 (pa_cons (pv 1) pa_nil)))
      (pss_cons (ps_set (i := 5) sc_law.nd rfl (by first | exact Or.inl rfl | exact Or.inr rfl) (pe_callG T.ok__law_bent_text hg (hr.mono (by decide)) (by rfl) T.g__law_bent_text T.f__law_bent_text.kp T.b__law_bent_text .nil pass0 (pa_cons (pv 1) (pa_cons (pv 4) pa_nil))))
      (pss_one (ps_set (i := 2) sc_law.nd rfl (by first | exact Or.inl rfl | exact Or.inr rfl) (pe_op op_addX (pv 2) (pe_lst (pa_cons (pv 4) (pa_cons (pv 5) (pa_cons (pe_callG T.ok__law_bent_text hg (hr.mono (by decide)) (by rfl) T.g__law_bent_text T.f__law_bent_text.kp T.b__law_bent_text .nil pass0 (pa_cons (pv 1) (pa_cons (pv 5) pa_nil))) pa_nil))))))))))
      (pss_cons (ps_for PassesOwn.never rfl (pi_any (pv 2)) (pg_name (i := 4) sc_law.nd rfl (by first | exact Or.inl rfl | exact Or.inr rfl)) (pss_one (ps_if (pt_cmpR (op_neA hu64) (pe_callB (call_repr hg hu64) (by rfl) T.n_repr (by decide +kernel) (pa_cons (pe_callG T.ok__law_heard hg (hr.mono (by decide)) (by rfl) T.g__law_heard T.f__law_heard.kp T.b__law_heard .nil pass0 (pa_cons (pv 4) pa_nil)) pa_nil)) (pe_callB (call_repr hg hu64) (by rfl) T.n_repr (by decide +kernel) (pa_cons (pe_callG T.ok__law_rows_due hg (hr.mono (by decide)) (by rfl) T.g__law_rows_due T.f__law_rows_due.kp T.b__law_rows_due .nil pass0 (pa_cons (pv 4) pa_nil)) pa_nil)) (nomark _)) (pss_one (ps_ret pe_bl)) pss_nil)))
      (pss_one (ps_ret pe_bl)))))),
    law_read (K := K) (N := N_law) (by decide) (b := b_law) ((is_seq (is_setX (i := 2) (ix_m (im_lst (ia_cons ie_non (ia_cons ie_int (ia_cons (ie_x (ix_m (im_lst ia_nil))) (ia_cons (ie_x (ix_m (im_lst (ia_cons ie_str ia_nil)))) (ia_cons (ie_tup (ia_cons ie_str ia_nil)) (ia_cons (ie_x (ix_m im_d0)) (ia_cons ie_bl (ia_cons ie_str (ia_cons ie_str (ia_cons ie_str (ia_cons ie_str (ia_cons ie_str (ia_cons ie_str (ia_cons ie_str ia_nil)))))))))))))))))
      (is_seq (is_setX (i := 2) (ix_op ox_add (ie_var (i := 2)) (ie_x (ix_m (im_lst (ia_cons (ie_bm (Ty := "str") bm_join ie_str (ia_cons (ie_x (ix_op ox_mul (ie_x (ix_m (im_lst (ia_cons ie_str ia_nil)))) ie_int)) ia_nil)) (ia_cons (ie_bm (Ty := "str") bm_join ie_str (ia_cons (ie_x (ix_op ox_mul (ie_x (ix_m (im_lst (ia_cons ie_str ia_nil)))) ie_int)) ia_nil)) ia_nil)))))))
      (is_seq (is_for (iw_rng1 (ia_cons ie_int ia_nil)) (ig_name (i := 3)) (is_seq (is_setX (i := 4) (ix_call (ia_cons (ie_var (i := 1)) ia_nil) (len_cons len_nil)))
      (is_seq (is_setX (i := 5) (ix_call (ia_cons (ie_var (i := 1)) (ia_cons (ie_give (i := 4)) ia_nil)) (len_cons (len_cons len_nil))))
      (is_setX (i := 2) (ix_op ox_add (ie_var (i := 2)) (ie_x (ix_m (im_lst (ia_cons (ie_give (i := 4)) (ia_cons (ie_give (i := 5)) (ia_cons (ie_x (ix_call (ia_cons (ie_var (i := 1)) (ia_cons (ie_give (i := 5)) ia_nil)) (len_cons (len_cons len_nil)))) ia_nil)))))))))))
      (is_seq (is_for (iw_any (ie_give (i := 2))) (ig_name (i := 4)) (is_if (it_test (ie_op od_ne (ie_cb cd_repr (ia_cons (ie_x (ix_call (ia_cons (ie_give (i := 4)) ia_nil) (len_cons len_nil))) ia_nil)) (ie_cb cd_repr (ia_cons (ie_x (ix_call (ia_cons (ie_give (i := 4)) ia_nil) (len_cons len_nil))) ia_nil)))) (is_retX (ix_e ie_bl)) is_next))
      (is_retX (ix_e ie_bl))))))) hS hl (hm ns hl)⟩
end
end My

local macro_rules | `(tactic| walk_at "gd") => `(tactic| simp (config := { implicitDefEqProofs := false }) only [GD.sl_0, GD.sl_s, GD.q_seq, GD.q_seq1, GD.q_seq2, GD.q_seq3, GD.q_seq4, GD.q_next, GD.q_break, GD.q_cont, GD.q_retN, GD.q_if, GD.q_if1, GD.q_if2, GD.q_set, GD.q_set1, GD.q_set2, GD.q_set3, GD.q_ret, GD.q_ret1, GD.q_ret2, GD.q_ret3, GD.q_ret4, GD.q_ret5, GD.q_drop, GD.q_drop1, GD.q_put, GD.q_put1, GD.q_put2, GD.q_own0, GD.q_ownS, GD.q_asg, GD.q_asg1, GD.q_gN, GD.q_gT, GD.q_gs0, GD.q_gs1, GD.q_aug, GD.q_aug1, GD.q_for, GD.q_for1, GD.q_for0, GD.q_forc, GD.q_forb, GD.q_fork1, GD.q_fork2, GD.q_fork3, GD.q_fork4, GD.q_wh, GD.q_wh1, GD.q_wh2, GD.q_wh3, GD.q_wh4, GD.q_var, GD.q_var1, GD.q_var2, GD.q_give, GD.q_give1, GD.q_give2, GD.q_toL, GD.q_c, GD.q_rsv, GD.q_rss, GD.q_rss1, GD.q_rss2, GD.q_rkv, GD.q_eX, GD.q_eX1, GD.q_eX2, GD.q_xE, GD.q_xE1, GD.q_xM, GD.q_xM1, GD.q_e1, GD.q_e11, GD.q_e12, GD.q_e2, GD.q_e21, GD.q_e22, GD.q_e23, GD.q_v, GD.q_op, GD.q_op1, GD.q_xop, GD.q_xop1, GD.q_xop2, GD.q_xop3, GD.q_un, GD.q_un1, GD.q_tv, GD.q_tv1, GD.q_and, GD.q_and1, GD.q_and2, GD.q_or, GD.q_or1, GD.q_or2, GD.q_not, GD.q_not1, GD.q_yes, GD.q_xif, GD.q_xif1, GD.q_xif2, GD.q_isN, GD.q_notN, GD.q_isN1, GD.q_isN2, GD.q_n0, GD.q_n1, GD.q_n2, GD.q_n3, GD.q_n4, GD.q_n5, GD.q_nil, GD.q_cons, GD.q_cons1, GD.q_cons2, GD.q_la, GD.q_eA, GD.q_eA1, GD.q_eK, GD.q_eK1, GD.q_lc, GD.q_rsA0, GD.q_rsA, GD.q_rkA0, GD.q_rkA, GD.q_tup, GD.q_tup1, GD.q_lst, GD.q_lst1, GD.q_ca, GD.q_ca1, GD.q_m, GD.q_cam, GD.q_cam1, GD.q_isi2, GD.q_isi, GD.q_isi1, GD.q_mt, GD.q_mt0, GD.q_mt1, GD.q_mt2, GD.q_mt3, GD.q_eB, GD.q_eB1, GD.q_eBs, GD.q_eBl, GD.q_eB2, GD.q_eB3, GD.q_bm, GD.q_bm1, GD.q_bmm, GD.q_bmm1, GD.q_call, GD.q_call1, GD.q_call2, GD.q_cN, GD.q_nd0, GD.q_nd1, GD.q_call3, GD.q_cO1, GD.q_cO2, GD.q_callK, GD.q_callK1, GD.q_callK2, GD.q_appR, GD.q_sa0, GD.q_sa1, GD.q_sa2, GD.q_sa3, GD.q_sa4, GD.q_os0, GD.q_os1, GD.q_os2, GD.q_os3, GD.q_ou0, GD.q_ou1, GD.q_ou2, GD.q_up0, GD.q_up1, GD.q_up2, GD.q_up3, GD.q_comp, GD.q_comp1, GD.q_comp2, GD.q_cp0, GD.q_cpc, GD.q_cpg, GD.q_cpt, GD.q_cpf, GD.q_cpe, GD.q_cpk, GD.q_wi0, GD.q_wi1, GD.q_wa, GD.q_wa1, GD.q_wa2, GD.q_wa3, GD.q_wa4, GD.q_r1, GD.q_r11, GD.q_r2, GD.q_r21, GD.q_oN, GD.q_oS, GD.q_oS1, GD.q_sl, GD.q_sl1, GD.q_sl2, GD.q_sl3, GD.q_slL, GD.q_slT, GD.q_slS, GD.q_jo, GD.q_jo1, GD.q_js0, GD.q_js, GD.q_js1, GD.q_fm, GD.q_fm1, GD.q_fm2, GD.q_ch, GD.q_cha, GD.q_chb, GD.q_ch0, GD.q_ch1, GD.q_ch2, GD.q_ch3, GD.q_ch4, GD.q_land, GD.q_land1, GD.q_land2, GD.q_lor, GD.q_lor1, GD.q_lor2, GD.q_lnot, GD.q_lnot1, GD.c_sub, GD.c_lt, GD.c_le, GD.c_gt, GD.c_ge, GD.c_neg, GD.c_mod, GD.c_div, GD.c_pow, GD.c_mulL, GD.c_mulR, GD.c_eqI, GD.c_neI, GD.c_eqT, GD.c_neT, GD.c_scL, GD.c_scT, GD.c_eqL0, GD.c_neL0, GD.c_inL, GD.c_inS, GD.c_repr, GD.c_addI, GD.c_addS, GD.c_addT, GD.c_addL, GD.c_app, GD.c_strI, GD.c_strS, GD.c_intI, GD.c_intB, GD.c_intS, GD.c_abs, GD.c_lenL, GD.c_lenT, GD.c_lenS, GD.c_listL, GD.c_listT, GD.c_tupL, GD.c_tupT, GD.c_ixL, GD.c_ixT, GD.c_ixS, GD.c_at, GD.c_set, GD.c_part, GD.c_split, GD.q_run, GD.q_run1, GD.q_run2, GD.q_ouE0, GD.q_ouE1, GD.q_ouE2, GD.q_star, GD.q_star1, GD.c_min2, GD.c_max2, GD.q_orT, GD.q_orT1, GD.q_orT2, GD.q_orT3, GD.c_truN, GD.c_truS, GD.c_mulS, GD.c_addII, GD.q_s01, GD.q_s11, GD.q_s02, GD.q_s02r, GD.q_s12, GD.q_s12r, GD.q_s21, GD.q_s03, GD.q_s03r, GD.q_wea, GD.q_wea0, GD.q_wea1, GD.q_wea2, GD.q_wea3, GD.c_mulX, GD.c_rev, GD.c_popAt, GD.c_ext, GD.q_cak, GD.q_cak0, GD.q_cak1, GD.q_cak2, GD.q_cak3, GD.q_lz, GD.q_lz0, GD.q_lz1, GD.q_lz2, GD.c_kget, GD.q_d0, GD.q_d1, GD.c_d0, GD.c_d1, GD.c_repr2, GD.c_eq0, GD.c_upper, GD.q_sd01, GD.q_sd02, GD.q_sd02r, GD.q_callD, GD.q_callD1, GD.c_upper1, GD.c_mulT, GD.c_mulTA, GD.c_max3, GD.c_isB, GD.c_repr3, GD.c_eqL0x, GD.c_inT2, GD.c_notInT2, GD.c_neL0x, GD.c_revT, GD.q_par, GD.q_par1, GD.c_index, GD.c_maxL, GD.q_wzm, GD.q_wzm0, GD.q_wzm1, GD.q_wzm2, GD.q_sd11, GD.q_comp2c, GD.q_c21, GD.q_c20, GD.q_c2c, GD.q_c2g, GD.q_c2t, GD.q_c2f, GD.q_c2w, GD.q_c2x, GD.c_sum, GD.c_extT, GD.c_divm, GD.c_repr4, GD.c_sset, GD.q_sc, GD.q_sc1, GD.q_sc2, GD.q_sc3, GD.q_sc4, GD.c_srtS, GD.c_lrng, GD.q_isj, GD.q_isj1, GD.q_isj2, GD.c_notB, GD.c_ins0, GD.c_ssetT, GD.c_inLT, GD.q_revL, GD.q_revL1, GD.q_revL2, GD.c_revL, GD.q_nest, GD.q_of, GD.q_of1, GD.q_sxs, GD.q_sxs1, GD.q_sxs2, GD.q_sxs3, GD.q_sxi, GD.q_sxi1, GD.q_sxi2, GD.q_rz, GD.q_rz1, GD.q_rz2, GD.q_try, GD.q_try1, GD.q_try2, GD.q_try3, GD.q_try4, GD.q_try5, GD.q_try6, GD.q_try7, GD.q_runX, GD.q_runX1, GD.q_runX2, GD.q_runX3, GD.q_isX, GD.q_isX1, GD.q_isX2, GD.c_excNm, GD.q_xF, GD.q_xF1, GD.q_xF2, GD.c_excFd, GD.c_isNX, GD.q_pl, GD.q_pl1, GD.q_pl2, GD.q_rp, GD.q_rp1, GD.q_rp2, GD.q_rp3, GD.q_trn, GD.q_trn1, GD.q_trn2, GD.q_trn3, GD.q_trn4, GD.q_trn5, GD.q_trn6, GD.q_fst, GD.q_fst1, GD.q_fst2, GD.q_fst3, GD.q_runN, GD.q_runN1, GD.c_mulTB, GD.q_forx, GD.q_forx1, GD.q_forx0, GD.q_forxc, GD.q_forxb, GD.q_forxk1, GD.q_forxk2, GD.q_forxk3, GD.q_forxk4, GD.q_forxk5, GD.q_cx, GD.q_cx1, GD.q_cx2, GD.q_cx3, GD.q_cx4, GD.q_cx5, GD.q_gR0, GD.q_dropX, GD.q_dropX1, GD.q_dropX2, GD.q_setXX, GD.q_setXX1, GD.q_setXX2, GD.q_retXX, GD.q_retXX1, GD.q_retXX2, GD.q_retLX, GD.q_retLX1, GD.q_retLX2, GD.q_tg, GD.q_tg1, GD.q_tg2, GD.q_runY, GD.q_runY1, GD.q_runY2, GD.q_runY3, GD.q_runY4, Bool.false_eq_true, Bool.and_true, Bool.true_and, Option.bind_some, Option.map_some, Option.bind_none, Option.map_none, List.set_cons_zero, List.set_cons_succ, List.length_cons, List.length_nil, ite_true, ite_false, if_true, if_false, reduceIte, decide_true, decide_false, Int.reduceLT, Int.reduceLE, Int.reduceNeg, Nat.reduceAdd, Nat.reduceLT, Int.toNat_zero, Nat.reduceLeDiff, Nat.zero_le, Nat.le_refl, List.isEmpty_iff, Int.reduceToNat, Int.reducePow, Int.reduceMul, Int.reduceAdd, Nat.reduceMul, List.map_nil, List.map_cons, List.isEmpty_nil, List.isEmpty_cons, Int.natAbs_natCast, Bool.not_true, Bool.not_false, eq_self, List.nil_append, List.cons_append, *])
namespace My
open PySem PySem.Spec PyProof.Rows L2 GD
def pen (ns : List Int) (idx great : Int) : Mu := .l [.list (ns.map .int), .int idx, .int great]
theorem pen_def (ns : List Int) (idx great : Int) : pen ns idx great = .l [.list (ns.map .int), .int idx, .int great] := rfl
theorem at2 (a b c : D) : atI [a, b, c] 2 = some c := rfl
theorem at1 (a b c : D) : atI [a, b, c] 1 = some b := rfl
theorem at0 (a b c : D) : atI [a, b, c] 0 = some a := rfl
theorem st2 (a b c d : D) : gSetL (.l [a, b, c]) (.int 2) d = some (.l [a, b, d]) := rfl
theorem st1 (a b c d : D) : gSetL (.l [a, b, c]) (.int 1) d = some (.l [a, d, c]) := rfl
theorem draw_great (ns : List Int) (idx great b : Int) (hg : 0 < great) (hb : 0 < b) (hb2 : b < 1073741824) :
    m__law_draw [.own true (pen ns idx great), .shr (.int b)] = some (.val (.int (great % b)), [some (pen ns idx (great / b)), none]) := by
  have e0 : env0 7 [.own true (pen ns idx great), .shr (.int b)] = [some (.own true (pen ns idx great)), some (.shr (.int b)), none, none, none, none, none] := rfl
  unfold m__law_draw b__law_draw
  rw [q_run, e0]
  simp only [pen_def]
  have h1 := at2
  have h2 := st2
  walk_at "gd"
theorem gr0 (g : Int) (h : g = 0) : decide (0 < g) = false := by subst h; rfl
def mixA (c idx : Int) : Int := c % 2147483549 + 60149 * idx + 37
def mixB (c idx : Int) : Int := mixA c idx ^ 5 % 2147483579
def mixC (c idx : Int) : Int := mixB c idx * (2 * idx + 13) + 70123 * idx * idx + 3
def mixD (c idx : Int) : Int := mixC c idx ^ 3 % 2147483629
theorem sq_le (idx : Int) (h : 0 ≤ idx) (h2 : idx < 1048576) : 0 ≤ idx * idx ∧ idx * idx ≤ 1048576 * 1048576 :=
  ⟨Int.mul_nonneg h h, Int.mul_le_mul (by omega) (by omega) h (by omega)⟩
theorem mixC_lt (c idx : Int) (h : 0 ≤ idx) (h2 : idx < 1048576) : (mixC c idx).natAbs < 18446744073709551616 := by
  have hb : 0 ≤ mixB c idx ∧ mixB c idx < 2147483579 := by unfold mixB; omega
  have h3 := sq_le idx h h2
  have h4 : 0 ≤ mixB c idx * (2 * idx + 13) := Int.mul_nonneg hb.1 (by omega)
  have h5 : mixB c idx * (2 * idx + 13) ≤ 2147483579 * (2 * 1048576 + 13) := Int.mul_le_mul (by omega) (by omega) (by omega) (by omega)
  have h6 : 70123 * idx * idx = 70123 * (idx * idx) := Int.mul_assoc ..
  unfold mixC; rw [h6]; omega
theorem depth_ints (ns : List Int) : PyData.depthAll (ns.map .int) ≤ 1 := by induction ns <;> simp_all [PyData.depthAll, PyData.depth]
theorem lay_ints (ns : List Int) : PyData.canLayAll0 (ns.map .int) = true := by induction ns <;> simp_all [PyData.canLayAll0, PyData.canLay0]
theorem shaped_ints (ns : List Int) : SeqAt.shaped (.list (ns.map .int)) = true := by
  have := depth_ints ns
  simp [SeqAt.shaped, PyData.canLay0, PyData.depth, lay_ints]; omega
theorem atI_ints (ns : List Int) (k : Int) (h : 0 ≤ k) (h2 : k < ns.length) : ∃ c : Int, atI (ns.map PyData.int) k = some (PyData.int c) := by
  rw [c_at h (by simpa using h2)]
  have : k.toNat < ns.length := by omega
  exact ⟨ns[k.toNat], by simp [this]⟩
theorem draw_ok (ns : List Int) (idx great b : Int) (h0 : 0 ≤ idx) (h1 : idx < 1048576) (hg : 0 ≤ great) (hb : 0 < b) (hb2 : b < 1073741824) :
    ∃ r idx' great', m__law_draw [.own true (pen ns idx great), .shr (.int b)] = some (.val (.int r), [some (pen ns idx' great'), none]) ∧ 0 ≤ r ∧ r < b ∧ idx ≤ idx' ∧ idx' ≤ idx + 1 ∧ 0 ≤ great' := by
  by_cases hg2 : 0 < great
  · exact ⟨_, _, _, draw_great ns idx great b hg2 hb hb2, Int.emod_nonneg _ (by omega), Int.emod_lt_of_pos _ hb, by omega, by omega, Int.ediv_nonneg hg (by omega)⟩
  have e0 : env0 7 [.own true (pen ns idx great), .shr (.int b)] = [some (.own true (pen ns idx great)), some (.shr (.int b)), none, none, none, none, none] := rfl
  unfold m__law_draw b__law_draw
  rw [q_run, e0]
  simp only [pen_def]
  have i1 := at2
  have i2 := at1
  have i3 := at0
  have j1 := st1
  have j2 := st2
  have hs := shaped_ints ns
  have a1 : ∀ c : Int, (c % 2147483549 + 60149 * idx + 37).natAbs < 18446744073709551616 := fun c => by omega
  have eB : ∀ c : Int, (c % 2147483549 + 60149 * idx + 37) ^ 5 % 2147483579 = mixB c idx := fun c => rfl
  have hB1 : ∀ c, -18446744073709551616 < mixB c idx := fun c => by unfold mixB; omega
  have hB2 : ∀ c, mixB c idx < 18446744073709551616 := fun c => by unfold mixB; omega
  have hC : ∀ c, mixB c idx * (2 * idx + 13) + 70123 * idx * idx + 3 = mixC c idx := fun c => rfl
  have hC1 := fun c => mixC_lt c idx h0 h1
  have hD : ∀ c, mixC c idx ^ 3 % 2147483629 = mixD c idx := fun c => rfl
  have h7 : -18446744073709551616 < 70123 * idx := by omega
  have h8 : 70123 * idx < 18446744073709551616 := by omega
  have hgr := gr0 great (by omega)
  have fin : ∀ c : Int, ∃ r idx' great', (some (Ret.val (.int (mixD c idx / 16 % b)), [some (Mu.l [.list (ns.map .int), .int (idx + 1), .int great]), none]) : Option (Ret × List (Option Mu))) = some (.val (.int r), [some (pen ns idx' great'), none]) ∧ 0 ≤ r ∧ r < b ∧ idx ≤ idx' ∧ idx' ≤ idx + 1 ∧ 0 ≤ great' :=
    fun c => ⟨_, _, _, rfl, Int.emod_nonneg _ (by omega), Int.emod_lt_of_pos _ hb, by omega, by omega, hg⟩
  have hp : dPow (.int 10) (.int 18) = some (.int 1000000000000000000) := rfl
  by_cases hn : ns = []
  · subst hn
    have hs0 : dNe (.list []) (.list []) = some (.bool false) := c_neL0 (by decide)
    have hl : decide (idx < ((0 : Nat) : Int)) = false := by simp; omega
    walk_at "gd"
    exact fin _
  · have hl0 : 0 < ns.length := by cases ns <;> simp_all
    have hl1 : (0 : Int) < ((List.map PyData.int ns).length : Int) := by simp; exact hl0
    obtain ⟨c, hc⟩ := atI_ints ns (idx % ((List.map PyData.int ns).length : Int)) (Int.emod_nonneg _ (by omega)) (by simpa using Int.emod_lt_of_pos idx hl1)
    have hne : (List.map PyData.int ns).isEmpty = false := by cases ns <;> simp_all
    by_cases hx : idx < ((List.map PyData.int ns).length : Int)
    · have hx' : decide (idx < ((List.map PyData.int ns).length : Int)) = true := decide_eq_true hx
      by_cases hy : 1000000000000000000 ≤ (if c < 0 then -c else c)
      · have hy' : decide (1000000000000000000 ≤ (if c < 0 then -c else c)) = true := decide_eq_true hy
        have hz : (0 : Int) ≤ (if c < 0 then -c else c) := by omega
        have hw : (0 : Int) ≤ (if decide (c < 0) = true then 1 else 0) := by split <;> omega
        clear fin
        walk_at "gd"
        exact ⟨_, _, _, rfl, Int.emod_nonneg _ (by omega), Int.emod_lt_of_pos _ hb, by omega, by omega, Int.ediv_nonneg (by omega) (by omega)⟩
      · have hy' : decide (1000000000000000000 ≤ (if c < 0 then -c else c)) = false := decide_eq_false hy
        walk_at "gd"
        exact fin _
    · have hx' : decide (idx < ((List.map PyData.int ns).length : Int)) = false := decide_eq_false hx
      walk_at "gd"
      exact fin _
end My

namespace My
open PySem PySem.Spec PyProof.Rows L2 GD
/-! lists of signs cut at a separator -/
theorem par_spl (S : List Nat) (hS : S ≠ []) : ∀ (l acc : List Nat), (TL.par S acc l = none → TL.spl S 0 acc l = [acc ++ l]) ∧ (∀ a b, TL.par S acc l = some (a, b) → TL.spl S 0 acc l = a :: TL.spl S 0 [] b)
  | [], acc => ⟨fun _ => by rw [TL.spl_nil, List.append_nil], fun a b h => by cases h⟩
  | c :: r, acc => by
    obtain ⟨s, S', rfl⟩ : ∃ s S', S = s :: S' := by cases S with | nil => exact absurd rfl hS | cons s S' => exact ⟨s, S', rfl⟩
    cases hp : TL.pre (s :: S') (c :: r) with
    | true =>
      rw [TL.par_hit hp, TL.spl_hit hp]
      refine ⟨fun h => (by cases h), fun a b h => ?_⟩
      obtain ⟨rfl, rfl⟩ := Prod.mk.inj (Option.some.inj h)
      rw [TL.spl_pass]
      rfl
    | false =>
      rw [TL.par_miss hp, TL.spl_miss hp]
      have ih := par_spl (s :: S') hS r (acc ++ [c])
      refine ⟨fun h => ?_, ih.2⟩
      rw [ih.1 h, List.append_assoc]
      rfl
theorem spl_ne (S : List Nat) (hS : S ≠ []) (l acc : List Nat) : TL.spl S 0 acc l ≠ [] := by
  have h := par_spl S hS l acc
  cases e : TL.par S acc l with
  | none => rw [h.1 e]; simp
  | some p => rw [h.2 p.1 p.2 e]; simp
theorem par_all (S : List Nat) (hS : S ≠ []) : ∀ (l acc a b : List Nat), TL.par S acc l = some (a, b) → acc ++ l = a ++ (S ++ b)
  | [], acc, a, b, h => by cases h
  | c :: r, acc, a, b, h => by
    cases hp : TL.pre S (c :: r) with
    | true =>
      rw [TL.par_hit hp] at h
      obtain ⟨rfl, rfl⟩ := Prod.mk.inj (Option.some.inj h)
      have e : (c :: r).take S.length = S := by unfold TL.pre at hp; exact beq_iff_eq.mp hp
      have := List.take_append_drop S.length (c :: r)
      rw [e] at this
      rw [this]
    | false =>
      rw [TL.par_miss hp] at h
      have ih := par_all S hS r (acc ++ [c]) a b h
      rw [← ih, List.append_assoc]
      rfl
/-! texts of plain signs -/
def mkS (l : List Nat) : Str := ⟨l.toArray⟩
theorem tl_mkS (l : List Nat) : TL.tl (mkS l) = l := rfl
theorem mkS_tl (x : Str) : mkS (TL.tl x) = x := TL.ext_tl rfl
def Asc (x : Str) : Prop := ∀ c ∈ TL.tl x, c < 128
def dig (c : Nat) : Bool := decide (48 ≤ c) && decide (c ≤ 57)
theorem dig_in0 : ∀ n : Nat, n < 128 → (!(Builtin.Str.occurrences ("0123456789" : Str) ⟨#[n]⟩ 0 ("0123456789" : Str).length 1).isEmpty) = dig n := by decide +kernel
theorem dig_in (n : Nat) (h : n < 128) : dIn (.str ⟨#[n]⟩) (.str ("0123456789" : Str)) = some (.bool (dig n)) := by rw [c_inS, dig_in0 n h]
theorem dig_notIn (n : Nat) (h : n < 128) : dNotIn (.str ⟨#[n]⟩) (.str ("0123456789" : Str)) = some (.bool (!dig n)) := by
  have := dig_in n h
  unfold dIn at this
  unfold dNotIn
  cases hb : dInB (.str ⟨#[n]⟩) (.str ("0123456789" : Str)) with
  | none => rw [hb] at this; cases this
  | some b => rw [hb] at this; cases this; rfl
def canon (l : List Nat) : Bool := decide (l = [48]) || !decide (l.head? = some 48)
def numL3 (l : List Nat) : Bool := decide (1 ≤ l.length) && decide (l.length ≤ 3) && l.all dig && canon l
def numO (x : Str) : Option Int := if numL3 (TL.tl x) = true then some ((NumText.digitsVal (TL.tl x) : Nat) : Int) else none
def nT (k : Int) : Str := Str.ofString (toString k)
theorem allD {l : List Nat} (h : l.all dig = true) : NumText.AllDigits l := fun c hc => by
  have := List.all_eq_true.mp h c hc
  unfold dig at this
  rw [Bool.and_eq_true, decide_eq_true_eq, decide_eq_true_eq] at this
  exact this
theorem val_lt : ∀ {l : List Nat}, l.all dig = true → l.length ≤ 3 → NumText.digitsVal l < 1000
  | [], _, _ => by decide
  | [a], h, _ => by have := allD h a (by simp); simp [NumText.digitsVal]; omega
  | [a, b], h, _ => by have h1 := allD h a (by simp); have h2 := allD h b (by simp); simp [NumText.digitsVal]; omega
  | [a, b, c], h, _ => by have h1 := allD h a (by simp); have h2 := allD h b (by simp); have h3 := allD h c (by simp); simp [NumText.digitsVal]; omega
  | _ :: _ :: _ :: _ :: _, _, h => by simp at h
theorem numL_two {n : Nat} (h : 10 ≤ n) (h2 : n < 100) : TL.numL n = [48 + n / 10, 48 + n % 10] := by rw [TL.numL_step h, TL.numL_lt (by omega)]; rfl
theorem numL_three {n : Nat} (h : 100 ≤ n) (h2 : n < 1000) : TL.numL n = [48 + n / 100, 48 + n / 10 % 10, 48 + n % 10] := by
  rw [TL.numL_step (by omega), numL_two (by omega) (by omega)]
  have : n / 10 / 10 = n / 100 := by omega
  rw [this]; rfl
/-- a word of one to three digits is the text of its value when it does not begin with 0 in vain -/
theorem val_text : ∀ {l : List Nat}, l.all dig = true → 1 ≤ l.length → l.length ≤ 3 → decide (TL.numL (NumText.digitsVal l) = l) = canon l
  | [], _, h, _ => by simp at h
  | [a], h, _, _ => by
    have h1 := allD h a (by simp)
    have e : NumText.digitsVal [a] = a - 48 := by simp [NumText.digitsVal]
    rw [e, TL.numL_lt (by omega), show 48 + (a - 48) = a by omega]
    unfold canon
    by_cases z : a = 48 <;> simp [z]
  | [a, b], h, _, _ => by
    have h1 := allD h a (by simp)
    have h2 := allD h b (by simp)
    have e : NumText.digitsVal [a, b] = (a - 48) * 10 + (b - 48) := by simp [NumText.digitsVal]
    rw [e]
    unfold canon
    by_cases z : a = 48
    · subst z
      rw [TL.numL_lt (by omega)]
      simp
    · rw [numL_two (by omega) (by omega), show 48 + ((a - 48) * 10 + (b - 48)) / 10 = a by omega, show 48 + ((a - 48) * 10 + (b - 48)) % 10 = b by omega]
      simp [z]
  | [a, b, c], h, _, _ => by
    have h1 := allD h a (by simp)
    have h2 := allD h b (by simp)
    have h3 := allD h c (by simp)
    have e : NumText.digitsVal [a, b, c] = ((a - 48) * 10 + (b - 48)) * 10 + (c - 48) := by simp [NumText.digitsVal]
    rw [e]
    unfold canon
    by_cases z : a = 48
    · subst z
      have hl : (TL.numL (((48 - 48) * 10 + (b - 48)) * 10 + (c - 48))).length ≤ 2 := TL.numL_len (by decide) (by omega)
      have : ¬ TL.numL (((48 - 48) * 10 + (b - 48)) * 10 + (c - 48)) = [48, b, c] := fun e => by rw [e] at hl; simp at hl
      rw [decide_eq_false this]
      simp
    · rw [numL_three (by omega) (by omega), show 48 + (((a - 48) * 10 + (b - 48)) * 10 + (c - 48)) / 100 = a by omega, show 48 + (((a - 48) * 10 + (b - 48)) * 10 + (c - 48)) / 10 % 10 = b by omega, show 48 + (((a - 48) * 10 + (b - 48)) * 10 + (c - 48)) % 10 = c by omega]
      simp [z]
  | _ :: _ :: _ :: _ :: _, _, _, h => by simp at h
theorem val_eq {x : Str} (h : (TL.tl x).all dig = true) (h1 : 1 ≤ (TL.tl x).length) (h3 : (TL.tl x).length ≤ 3) : decide (nT ((NumText.digitsVal (TL.tl x) : Nat) : Int) = x) = canon (TL.tl x) := by
  rw [← val_text h h1 h3]
  have e : TL.tl (nT ((NumText.digitsVal (TL.tl x) : Nat) : Int)) = TL.numL (NumText.digitsVal (TL.tl x)) := TL.tl_num _
  by_cases q : TL.numL (NumText.digitsVal (TL.tl x)) = TL.tl x
  · rw [decide_eq_true q]; exact decide_eq_true (TL.ext_tl (e.trans q))
  · rw [decide_eq_false q]; exact decide_eq_false fun z => q (e.symm.trans (congrArg TL.tl z))
theorem comp_all {A : Type} {vs : List Nat} {tg : D → En → Option En} {ft : EvT} {fe : EvE} {env : En} (f F : A → D) : ∀ (l : List A) (acc : List D), acc.length + l.length ≤ 1000000 →
    (∀ a ∈ l, ∀ ds acc, acc.length ≤ 1000000 → cpG vs tg ft fe ds acc (tg (f a) env) = compE vs tg ft fe ds (acc ++ [F a]) env) → compE vs tg ft fe (l.map f) acc env = some (acc ++ l.map F, env)
  | [], acc, _, _ => by simp [compE]
  | a :: l, acc, hl, h => by
    simp only [List.length_cons] at hl
    rw [List.map_cons, q_cpc, h a (List.mem_cons_self ..) _ _ (by omega), comp_all f F l (acc ++ [F a]) (by rw [List.length_append, List.length_singleton]; omega) fun b hb => h b (List.mem_cons_of_mem _ hb)]
    simp
theorem comp_fil {A : Type} {vs : List Nat} {tg : D → En → Option En} {ft : EvT} {fe : EvE} {env : En} (f F : A → D) (p : A → Bool) : ∀ (l : List A) (acc : List D), acc.length + l.length ≤ 1000000 →
    (∀ a ∈ l, ∀ ds acc, acc.length ≤ 1000000 → cpG vs tg ft fe ds acc (tg (f a) env) = compE vs tg ft fe ds (if p a = true then acc ++ [F a] else acc) env) → compE vs tg ft fe (l.map f) acc env = some (acc ++ (l.filter p).map F, env)
  | [], acc, _, _ => by simp [compE]
  | a :: l, acc, hl, h => by
    simp only [List.length_cons] at hl
    rw [List.map_cons, q_cpc, h a (List.mem_cons_self ..) _ _ (by omega)]
    cases hp : p a with
    | true =>
      rw [if_pos rfl, comp_fil f F p l (acc ++ [F a]) (by rw [List.length_append, List.length_singleton]; omega) fun b hb => h b (List.mem_cons_of_mem _ hb), List.filter_cons_of_pos hp]
      simp
    | false =>
      rw [if_neg (by simp), comp_fil f F p l acc (by omega) fun b hb => h b (List.mem_cons_of_mem _ hb), List.filter_cons_of_neg (by simp [hp])]
def oI : Option Int → D
  | some i => .int i
  | none => .none
theorem slot_ok (x : Str) (ha : Asc x) (hx : x.length ≤ 1000000) : m_slot_in [.shr (.str x)] = some (.val (oI (numO x)), [none]) := by
  have e0 : env0 2 [.shr (.str x)] = [some (.shr (.str x)), none] := rfl
  have el : x.length = (TL.tl x).length := TL.len_tl x
  unfold m_slot_in b_slot_in
  rw [q_run, e0]
  by_cases h1 : 1 ≤ (TL.tl x).length
  case neg =>
    have l2 : decide ((1 : Int) ≤ (x.length : Int)) = false := decide_eq_false (by omega)
    have hn : numO x = none := by unfold numO numL3; rw [decide_eq_false h1]; rfl
    rw [hn]
    simp only [oI]
    clear el
    walk_at "gd"
  case pos =>
  have l2 : decide ((1 : Int) ≤ (x.length : Int)) = true := decide_eq_true (by omega)
  by_cases h3 : (TL.tl x).length ≤ 3
  case neg =>
    have l3 : decide ((x.length : Int) ≤ (3 : Int)) = false := decide_eq_false (by omega)
    have hn : numO x = none := by unfold numO numL3; rw [decide_eq_true h1, decide_eq_false h3]; rfl
    rw [hn]
    simp only [oI]
    clear el
    walk_at "gd"
  case pos =>
  have l3 : decide ((x.length : Int) ≤ (3 : Int)) = true := decide_eq_true (by omega)
  have hc : compE [1] (gN 1) tYesE (eOp dIn (eVar 1) (eC (.str ("0123456789" : Str)))) (signs x) [] [some (.shr (.str x)), none] = some ([] ++ (x.cps.toList.map fun c => .bool (dig c)), [some (.shr (.str x)), none]) := by
    refine comp_all (fun c => .str ⟨#[c]⟩) (fun c => .bool (dig c)) x.cps.toList [] (by simp only [List.length_nil]; have : x.cps.toList.length = (TL.tl x).length := rfl; omega) fun c hc ds acc hacc => ?_
    have hx := dig_in c (ha c hc)
    walk_at "gd"
  rw [List.nil_append] at hc
  have hal : cAll [.list (x.cps.toList.map fun c => .bool (dig c))] = some (.bool ((TL.tl x).all dig)) := by
    have h := c_all (x.cps.toList.map dig)
    rw [List.map_map, List.all_map] at h
    exact h
  cases hd : (TL.tl x).all dig with
  | false =>
    have hn : numO x = none := by unfold numO numL3; rw [decide_eq_true h1, decide_eq_true h3, hd]; rfl
    rw [hd] at hal
    rw [hn]
    simp only [oI]
    clear el
    walk_at "gd"
  | true =>
    rw [hd] at hal
    have hi : PySem.intText? x = some ((NumText.digitsVal (TL.tl x) : Nat) : Int) := PySem.intText_digits (allD hd) (fun e => by
      have e' : TL.tl x = [] := e
      rw [e'] at h1; simp at h1) (by omega)
    have hI : cInt [.str x] = some (.int ((NumText.digitsVal (TL.tl x) : Nat) : Int)) := c_intS hi (by omega)
    have vl := val_lt hd h3
    have hs : cStr [.int ((NumText.digitsVal (TL.tl x) : Nat) : Int)] = some (.str (nT ((NumText.digitsVal (TL.tl x) : Nat) : Int))) := c_strI (by
      have h1 : (((NumText.digitsVal (TL.tl x) : Nat) : Int)).natAbs < 1024 := by omega
      by_cases h0 : (((NumText.digitsVal (TL.tl x) : Nat) : Int)).natAbs = 0
      · rw [h0]; decide
      · exact (by have := (Nat.log2_lt h0 (k := 10)).mpr h1; omega))
    have hv := val_eq hd h1 h3
    have hn : numO x = if canon (TL.tl x) = true then some ((NumText.digitsVal (TL.tl x) : Nat) : Int) else none := by unfold numO numL3; rw [decide_eq_true h1, decide_eq_true h3, hd]; rfl
    rw [hn]
    generalize ((NumText.digitsVal (TL.tl x) : Nat) : Int) = v at *
    cases hk : canon (TL.tl x) with
    | true =>
      rw [hk] at hv
      simp only [if_true, oI]
      clear el
      walk_at "gd"
    | false =>
      rw [hk] at hv
      simp only [Bool.false_eq_true, if_false, oI]
      clear el
      walk_at "gd"
end My

namespace My
open PySem PySem.Spec PyProof.Rows L2 GD
theorem shaped_signs : ∀ (l : List Nat), (∀ c ∈ l, c < 128) → PyData.canLayAll0 (l.map fun c => PyData.str ⟨#[c]⟩) = true ∧ PyData.depthAll (l.map fun c => PyData.str ⟨#[c]⟩) ≤ 1
  | [], _ => ⟨by simp [PyData.canLayAll0], by simp [PyData.depthAll]⟩
  | c :: l, h => by
    obtain ⟨h1, h2⟩ := shaped_signs l fun x hx => h x (List.mem_cons_of_mem _ hx)
    have hc := h c (List.mem_cons_self ..)
    refine ⟨?_, ?_⟩
    · rw [List.map_cons, PyData.canLayAll0, h1, Bool.and_true, PyData.canLay0, PyData.strOk, Array.all_eq_true']
      intro d hd
      have : d = c := by simpa using hd
      subst this
      exact decide_eq_true (by omega)
    · rw [List.map_cons, PyData.depthAll, PyData.depth]
      exact Nat.max_le.mpr ⟨by omega, h2⟩
theorem shaped_sg (l : List Nat) (h : ∀ c ∈ l, c < 128) : SeqAt.shaped (.list (l.map fun c => PyData.str ⟨#[c]⟩)) = true := by
  obtain ⟨h1, h2⟩ := shaped_signs l h
  unfold SeqAt.shaped
  rw [PyData.canLay0, h1, PyData.depth, decide_eq_true (by omega)]
  rfl
def lI : Option Int → List D
  | some i => [.int i]
  | none => []
theorem str_eq0 {x : Str} : decide (x = ("" : Str)) = decide ((TL.tl x).length = 0) := by
  by_cases h : x = ("" : Str)
  · subst h; rfl
  · rw [decide_eq_false h]
    refine (decide_eq_false fun q => h (TL.ext_tl ?_)).symm
    rw [List.length_eq_zero_iff.mp q]
    rfl
theorem fil_nil {l : List Nat} : (l.filter fun c => !dig c).isEmpty = l.all dig := by
  induction l with
  | nil => rfl
  | cons c l ih =>
    cases h : dig c with
    | true => rw [List.filter_cons_of_neg (by simp [h]), List.all_cons, h, Bool.true_and, ih]
    | false => rw [List.filter_cons_of_pos (by simp [h]), List.all_cons, h]; rfl
theorem head_eq {x : Str} (h1 : 1 ≤ (TL.tl x).length) : ∃ c, (TL.tl x).head? = some c ∧ atI x.cps.toList 0 = some c := by
  cases e : x.cps.toList with
  | nil =>
    have e' : TL.tl x = [] := e
    rw [e'] at h1; simp at h1
  | cons c l =>
    have e' : TL.tl x = c :: l := e
    rw [e']
    refine ⟨c, rfl, ?_⟩
    have h2 : (0 : Int) < ((c :: l).length : Int) := by rw [List.length_cons]; omega
    simp [atI, ixN, h2]
theorem one_sign (c : Nat) : decide ((⟨#[c]⟩ : Str) = ("0" : Str)) = decide (some c = some 48) := by
  by_cases h : c = 48
  · subst h; decide
  · rw [decide_eq_false (fun e => h (Option.some.inj e)), decide_eq_false fun e => h (by have := congrArg TL.tl e; exact (List.cons.inj this).1)]
theorem zero_eq {x : Str} : decide (x = ("0" : Str)) = decide (TL.tl x = [48]) := by
  by_cases h : TL.tl x = [48]
  · rw [decide_eq_true h]; exact decide_eq_true (TL.ext_tl h)
  · rw [decide_eq_false h]; exact decide_eq_false fun e => h (by rw [e]; rfl)
theorem due_ok (x : Str) (ha : Asc x) (hx : x.length ≤ 1000000) : m__law_number_due [.shr (.str x)] = some (.new (.l (lI (numO x))), [none]) := by
  have e0 : env0 2 [.shr (.str x)] = [some (.shr (.str x)), none] := rfl
  have el : x.length = (TL.tl x).length := TL.len_tl x
  unfold m__law_number_due b__law_number_due
  rw [q_run, e0]
  by_cases h1 : 1 ≤ (TL.tl x).length
  case neg =>
    have l2 : decide (x = ("" : Str)) = true := by rw [str_eq0]; exact decide_eq_true (by omega)
    have hn : numO x = none := by unfold numO numL3; rw [decide_eq_false h1]; rfl
    rw [hn]
    simp only [lI]
    clear el
    walk_at "gd"
  case pos =>
  have l2 : decide (x = ("" : Str)) = false := by rw [str_eq0]; exact decide_eq_false (by omega)
  by_cases h3 : (TL.tl x).length ≤ 3
  case neg =>
    have l3 : decide ((3 : Int) < (x.length : Int)) = true := decide_eq_true (by omega)
    have hn : numO x = none := by unfold numO numL3; rw [decide_eq_true h1, decide_eq_false h3]; rfl
    rw [hn]
    simp only [lI]
    clear el
    walk_at "gd"
  case pos =>
  have l3 : decide ((3 : Int) < (x.length : Int)) = false := decide_eq_false (by omega)
  have hc : compE [1] (gN 1) (tVal (eOp dNotIn (eVar 1) (eC (.str ("0123456789" : Str))))) (eGive 1) (signs x) [] [some (.shr (.str x)), none] = some ([] ++ ((x.cps.toList.filter fun c => !dig c).map fun c => .str ⟨#[c]⟩), [some (.shr (.str x)), none]) := by
    refine comp_fil (fun c => .str ⟨#[c]⟩) (fun c => .str ⟨#[c]⟩) (fun c => !dig c) x.cps.toList [] (by simp only [List.length_nil]; have : x.cps.toList.length = (TL.tl x).length := rfl; omega) fun c hc ds acc hacc => ?_
    have hx := dig_notIn c (ha c hc)
    cases hd : dig c with
    | true =>
      rw [hd] at hx
      simp only [Bool.not_true] at hx
      simp only [Bool.not_true, Bool.false_eq_true, if_false]
      walk_at "gd"
    | false =>
      rw [hd] at hx
      simp only [Bool.not_false] at hx
      simp only [Bool.not_false, if_true]
      walk_at "gd"
  rw [List.nil_append] at hc
  have hne : dNe (.list ((x.cps.toList.filter fun c => !dig c).map fun c => PyData.str ⟨#[c]⟩)) (.list []) = some (.bool (!(TL.tl x).all dig)) := by
    rw [c_neL0 (shaped_sg _ fun c hc => ha c (List.mem_filter.mp hc).1)]
    have : ((x.cps.toList.filter fun c => !dig c).map fun c => PyData.str ⟨#[c]⟩).isEmpty = (TL.tl x).all dig := by
      rw [List.isEmpty_map]; exact fil_nil
    rw [this]
  generalize ((x.cps.toList.filter fun c => !dig c).map fun c => PyData.str ⟨#[c]⟩) = bad at *
  cases hd : (TL.tl x).all dig with
  | false =>
    have hn : numO x = none := by unfold numO numL3; rw [decide_eq_true h1, decide_eq_true h3, hd]; rfl
    rw [hd] at hne
    simp only [Bool.not_false] at hne
    rw [hn]
    simp only [lI]
    clear el
    walk_at "gd"
  | true =>
    rw [hd] at hne
    simp only [Bool.not_true] at hne
    have hi : PySem.intText? x = some ((NumText.digitsVal (TL.tl x) : Nat) : Int) := PySem.intText_digits (allD hd) (fun e => by
      have e' : TL.tl x = [] := e
      rw [e'] at h1; simp at h1) (by omega)
    have hI : cInt [.str x] = some (.int ((NumText.digitsVal (TL.tl x) : Nat) : Int)) := c_intS hi (by omega)
    have hn : numO x = if canon (TL.tl x) = true then some ((NumText.digitsVal (TL.tl x) : Nat) : Int) else none := by unfold numO numL3; rw [decide_eq_true h1, decide_eq_true h3, hd]; rfl
    rw [hn]
    have z1 := zero_eq (x := x)
    obtain ⟨c, hh, hat⟩ := head_eq h1
    have z2 := one_sign c
    have hcan : canon (TL.tl x) = (decide (TL.tl x = [48]) || !decide (some c = some 48)) := by unfold canon; rw [hh]
    have hix : dIx (.str x) (.int 0) = some (.str ⟨#[c]⟩) := by rw [c_ixS hx, hat]; rfl
    rw [hcan]
    generalize ((NumText.digitsVal (TL.tl x) : Nat) : Int) = v at *
    generalize decide (TL.tl x = [48]) = b1 at *
    generalize decide (some c = some 48) = b2 at *
    clear hcan hn hh hat hi
    cases b1 with
    | true =>
      simp only [Bool.true_or, if_true, lI]
      clear el
      walk_at "gd"
    | false =>
      cases b2 with
      | true =>
        simp only [Bool.not_true, Bool.or_self, Bool.false_eq_true, if_false, lI]
        clear el
        walk_at "gd"
      | false =>
        simp only [Bool.not_false, Bool.or_true, if_true, lI]
        clear el
        walk_at "gd"
end My

namespace My
open PySem PySem.Spec PyProof.Rows L2 GD
abbrev Row := Int × Option Int
def rowD (r : Row) : D := .tuple [.int r.1, oI r.2]
def itemP : Option (List Nat × List Nat) → Option Row
  | none => none
  | some (a, b) => (numO (mkS a)).bind fun n => if b = [45] then some (n, none) else (numO (mkS b)).map fun m => (n, some m)
def itemO (w : Str) : Option Row := itemP (TL.par [62, 38] [] (TL.tl w))
def oR : Option Row → D
  | some r => rowD r
  | none => .none
theorem par_facts {w : Str} (ha : Asc w) {a b : List Nat} (h : TL.par [62, 38] [] (TL.tl w) = some (a, b)) :
    Asc (mkS a) ∧ Asc (mkS b) ∧ (mkS a).length ≤ w.length ∧ (mkS b).length ≤ w.length := by
  have e := par_all [62, 38] (by simp) (TL.tl w) [] a b h
  rw [List.nil_append] at e
  have hl : w.length = (TL.tl w).length := TL.len_tl w
  have hA : (mkS a).length = a.length := TL.len_tl (mkS a)
  have hB : (mkS b).length = b.length := TL.len_tl (mkS b)
  have hs : (TL.tl w).length = a.length + (2 + b.length) := by rw [e]; simp; omega
  exact ⟨fun c hc => ha c (by rw [e]; exact List.mem_append_left _ hc), fun c hc => ha c (by rw [e]; exact List.mem_append_right _ (List.mem_append_right _ hc)), by omega, by omega⟩
theorem dash_eq (b : List Nat) : decide (mkS b = ("-" : Str)) = decide (b = [45]) := by
  by_cases h : b = [45]
  · subst h; rfl
  · rw [decide_eq_false h]; exact decide_eq_false fun e => h (congrArg TL.tl e)
theorem item_in_ok (w : Str) (ha : Asc w) (hw : w.length ≤ 1000000) : m_item_in [.shr (.str w)] = some (.val (oR (itemO w)), [none]) := by
  have e0 : env0 6 [.shr (.str w)] = [some (.shr (.str w)), none, none, none, none, none] := rfl
  have hq := c_part (x := w) (y := (">&" : Str)) (by decide) hw
  have hp := TL.partition_par w (">&" : Str) (by decide)
  rw [hp] at hq
  clear hp
  have k1 : TL.tl (">&" : Str) = [62, 38] := rfl
  rw [k1] at hq
  have n2 : decide (("-" : Str) = ("-" : Str)) = true := by decide
  have n1 : decide ((">&" : Str) = ("" : Str)) = false := by decide
  have n0 : decide (Str.empty = ("" : Str)) = true := by decide
  unfold m_item_in b_item_in itemO
  rw [q_run, e0]
  cases e : TL.par [62, 38] [] (TL.tl w) with
  | none =>
    rw [e] at hq
    have hs := slot_ok w ha hw
    simp only [itemP, oR]
    dsimp only at hq
    generalize oI (numO w) = sv at *
    walk_at "gd"
  | some p =>
    obtain ⟨a, b⟩ := p
    rw [e] at hq
    obtain ⟨a1, a2, l1, l2⟩ := par_facts ha e
    have hs := slot_ok (mkS a) a1 (by omega)
    have ht := slot_ok (mkS b) a2 (by omega)
    have hd := dash_eq b
    replace hq : mPart (.str w) [.str (">&" : Str)] = some (.tuple [.str (mkS a), .str (">&" : Str), .str (mkS b)]) := hq
    simp only [itemP]
    clear e
    generalize mkS a = A at *
    generalize mkS b = B at *
    cases h1 : numO A with
    | none =>
      rw [h1] at hs
      simp only [oI] at hs
      simp only [Option.bind_none, oR]
      walk_at "gd"
    | some n =>
      rw [h1] at hs
      simp only [oI] at hs
      simp only [Option.bind_some]
      by_cases hb : b = [45]
      · rw [decide_eq_true hb] at hd
        rw [if_pos hb]
        simp only [oR, rowD, oI]
        walk_at "gd"
      · rw [decide_eq_false hb] at hd
        rw [if_neg hb]
        cases h2 : numO B with
        | none =>
          rw [h2] at ht
          simp only [oI] at ht
          simp only [Option.map_none, oR]
          walk_at "gd"
        | some m =>
          rw [h2] at ht
          simp only [oI] at ht
          simp only [Option.map_some, oR, rowD, oI]
          walk_at "gd"
/-! the law's own reading -/
theorem shaped_lI (o : Option Int) : SeqAt.shaped (.list (lI o)) = true := by
  cases o <;> simp [lI, SeqAt.shaped, PyData.canLay0, PyData.canLayAll0, PyData.depth, PyData.depthAll]
theorem numO_bad {x : Str} {c : Nat} (h : c ∈ TL.tl x) (hc : dig c = false) : numO x = none := by
  unfold numO
  have : (TL.tl x).all dig = false := by
    cases e : (TL.tl x).all dig with
    | false => rfl
    | true => rw [List.all_eq_true.mp e c h] at hc; cases hc
  unfold numL3
  rw [this]
  simp
theorem split_none {w : Str} (h : TL.par [62, 38] [] (TL.tl w) = none) : Txt.split w (">&" : Str) = [w] := by
  have e := TL.split_spl w (">&" : Str) (by decide) (TL.kind_ok (by decide +kernel))
  have k1 : TL.tl (">&" : Str) = [62, 38] := rfl
  rw [k1, (par_spl [62, 38] (by simp) _ []).1 h, List.nil_append] at e
  exact TL.map_tl_inj (m := [w]) e
theorem split_some {w : Str} {a b : List Nat} (h : TL.par [62, 38] [] (TL.tl w) = some (a, b)) : (Txt.split w (">&" : Str)).map TL.tl = a :: TL.spl [62, 38] 0 [] b := by
  have e := TL.split_spl w (">&" : Str) (by decide) (TL.kind_ok (by decide +kernel))
  have k1 : TL.tl (">&" : Str) = [62, 38] := rfl
  rw [k1, (par_spl [62, 38] (by simp) _ []).2 a b h] at e
  exact e
theorem split_two {w : Str} {a b : List Nat} (h : TL.par [62, 38] [] (TL.tl w) = some (a, b)) (h2 : TL.par [62, 38] [] b = none) : Txt.split w (">&" : Str) = [mkS a, mkS b] := by
  have e := split_some h
  rw [(par_spl [62, 38] (by simp) _ []).1 h2, List.nil_append] at e
  exact TL.map_tl_inj (m := [mkS a, mkS b]) e
theorem split_more {w : Str} {a b : List Nat} (h : TL.par [62, 38] [] (TL.tl w) = some (a, b)) {p : List Nat × List Nat} (h2 : TL.par [62, 38] [] b = some p) : 3 ≤ (Txt.split w (">&" : Str)).length ∧ itemO w = none := by
  have e := congrArg List.length (split_some h)
  rw [(par_spl [62, 38] (by simp) _ []).2 p.1 p.2 h2] at e
  have ne : TL.spl [62, 38] 0 [] p.2 ≠ [] := spl_ne _ (by simp) _ _
  have e2 := par_all [62, 38] (by simp) b [] p.1 p.2 h2
  rw [List.nil_append] at e2
  refine ⟨?_, ?_⟩
  · cases hs : TL.spl [62, 38] 0 [] p.2 with
    | nil => exact absurd hs ne
    | cons x l => rw [hs, List.length_map] at e; rw [e]; simp
  · have m62 : 62 ∈ b := by rw [e2]; simp
    unfold itemO
    rw [h]
    simp only [itemP]
    cases numO (mkS a) with
    | none => rfl
    | some n =>
      rw [Option.bind_some, if_neg (fun q => by rw [q] at m62; simp at m62), numO_bad (x := mkS b) (c := 62) m62 (by decide)]
      rfl
abbrev W1 : EvS := (sSetX 3 (xM (eBmM "str" mSplit (eVar 2) (aCons (eC (.str (">&" : Str))) aNil))))
abbrev W2 : EvS := (sIf (tfOr (tVal (eOp dNe (eCa cLen (aCons (eVar 3) aNil)) (eC (.int 2)))) (tVal (eOp dEq (eX (xCall m__law_number_due (aCons (eOp dIx (eVar 3) (eC (.int 0))) aNil))) (eX (xM (eLst aNil)))))) (sRetX (xM (eLst aNil))) sNext)
abbrev W3 : EvS := (sIf (tfAnd (tVal (eOp dNe (eOp dIx (eVar 3) (eC (.int 1))) (eC (.str ("-" : Str))))) (tVal (eOp dEq (eX (xCall m__law_number_due (aCons (eOp dIx (eVar 3) (eC (.int 1))) aNil))) (eX (xM (eLst aNil)))))) (sRetX (xM (eLst aNil))) sNext)
abbrev W4 : EvS := (sDrop (eMt "list" gApp 1 (aCons (eTup (aCons (eOp dIx (eX (xCall m__law_number_due (aCons (eOp dIx (eVar 3) (eC (.int 0))) aNil))) (eC (.int 0))) (aCons (eOp dIx (eX (xOp dAddX (eX (xCall m__law_number_due (aCons (eOp dIx (eVar 3) (eC (.int 1))) aNil))) (eX (xM (eLst (aCons (eC .none) aNil)))))) (eC (.int 0))) aNil))) aNil)))
abbrev WB : EvS := (sSeq W1 (sSeq W2 (sSeq W3 W4)))
theorem word_bad (w : Str) (ha : Asc w) (hw : w.length ≤ 900000) (line : D) (acc : List D) (o3 : Option Sl) (hn : itemO w = none) :
    ∃ o3' : Option Sl, WB [some (.shr line), some (.own false (.l acc)), some (.shr (.str w)), o3] = some (.rt (.new (.l [])), [some (.shr line), some (.own false (.l acc)), some (.shr (.str w)), o3']) := by
  unfold WB
  have hsp := c_split (x := w) (y := (">&" : Str)) (by decide) (by omega)
  cases e : TL.par [62, 38] [] (TL.tl w) with
  | none =>
    rw [split_none e] at hsp
    simp only [List.map_cons, List.map_nil] at hsp
    walk_at "gd"
    exact ⟨_, rfl⟩
  | some p =>
    obtain ⟨a, b⟩ := p
    obtain ⟨a1, a2, l1, l2⟩ := par_facts ha e
    cases e2 : TL.par [62, 38] [] b with
    | some p2 =>
      have h3 := (split_more e e2).1
      have hne : dNe (.int (((Txt.split w (">&" : Str)).map PyData.str).length : Int)) (.int 2) = some (.bool true) := by
        rw [c_neI]
        have : decide ((((Txt.split w (">&" : Str)).map PyData.str).length : Int) = 2) = false := decide_eq_false (by rw [List.length_map]; omega)
        rw [this]; rfl
      generalize (Txt.split w (">&" : Str)).map PyData.str = hv at *
      walk_at "gd"
      exact ⟨_, rfl⟩
    | none =>
      rw [split_two e e2] at hsp
      simp only [List.map_cons, List.map_nil] at hsp
      have a20 : ∀ p q : D, atI [p, q] 0 = some p := fun _ _ => rfl
      have a21 : ∀ p q : D, atI [p, q] 1 = some q := fun _ _ => rfl
      have a10 : ∀ p : D, atI [p] 0 = some p := fun _ => rfl
      have t22 : decide (((2 : Nat) : Int) = 2) = true := by decide
      have d1 := due_ok (mkS a) a1 (by omega)
      have d2 := due_ok (mkS b) a2 (by omega)
      have s1 := c_eqL0 (shaped_lI (numO (mkS a)))
      have s2 := c_eqL0 (shaped_lI (numO (mkS b)))
      have hd := dash_eq b
      unfold itemO at hn
      rw [e] at hn
      simp only [itemP] at hn
      clear e e2
      generalize mkS a = A at *
      generalize mkS b = B at *
      cases h1 : numO A with
      | none =>
        rw [h1] at d1 s1
        simp only [lI, List.isEmpty_nil] at d1 s1
        walk_at "gd"
        exact ⟨_, rfl⟩
      | some n =>
        rw [h1, Option.bind_some] at hn
        rw [h1] at d1 s1
        simp only [lI, List.isEmpty_cons] at d1 s1
        by_cases hb : b = [45]
        · rw [if_pos hb] at hn; cases hn
        · rw [if_neg hb] at hn
          rw [decide_eq_false hb] at hd
          cases h2 : numO B with
          | some m => rw [h2] at hn; cases hn
          | none =>
            rw [h2] at d2 s2
            simp only [lI, List.isEmpty_nil] at d2 s2
            walk_at "gd"
            exact ⟨_, rfl⟩
theorem word_good (w : Str) (ha : Asc w) (hw : w.length ≤ 900000) (line : D) (acc : List D) (o3 : Option Sl) (r : Row) (hn : itemO w = some r) (hacc : acc.length ≤ 1000000) :
    ∃ o3' : Option Sl, WB [some (.shr line), some (.own false (.l acc)), some (.shr (.str w)), o3] = some (.nx, [some (.shr line), some (.own false (.l (acc ++ [rowD r]))), some (.shr (.str w)), o3']) := by
  unfold WB
  have hsp := c_split (x := w) (y := (">&" : Str)) (by decide) (by omega)
  cases e : TL.par [62, 38] [] (TL.tl w) with
  | none => unfold itemO at hn; rw [e] at hn; cases hn
  | some p =>
    obtain ⟨a, b⟩ := p
    obtain ⟨a1, a2, l1, l2⟩ := par_facts ha e
    cases e2 : TL.par [62, 38] [] b with
    | some p2 => rw [(split_more e e2).2] at hn; cases hn
    | none =>
      rw [split_two e e2] at hsp
      simp only [List.map_cons, List.map_nil] at hsp
      have a20 : ∀ p q : D, atI [p, q] 0 = some p := fun _ _ => rfl
      have a21 : ∀ p q : D, atI [p, q] 1 = some q := fun _ _ => rfl
      have a10 : ∀ p : D, atI [p] 0 = some p := fun _ => rfl
      have t22 : decide (((2 : Nat) : Int) = 2) = true := by decide
      have d1 := due_ok (mkS a) a1 (by omega)
      have d2 := due_ok (mkS b) a2 (by omega)
      have s1 := c_eqL0 (shaped_lI (numO (mkS a)))
      have s2 := c_eqL0 (shaped_lI (numO (mkS b)))
      have hd := dash_eq b
      unfold itemO at hn
      rw [e] at hn
      simp only [itemP] at hn
      have n45 : numO ("-" : Str) = none := numO_bad (c := 45) (by decide) (by decide)
      have hB : b = [45] → mkS b = ("-" : Str) := fun q => by rw [q]; rfl
      clear e e2
      generalize mkS a = A at *
      generalize mkS b = B at *
      cases h1 : numO A with
      | none => rw [h1] at hn; cases hn
      | some n =>
        rw [h1, Option.bind_some] at hn
        rw [h1] at d1 s1
        simp only [lI, List.isEmpty_cons] at d1 s1
        by_cases hb : b = [45]
        · rw [if_pos hb] at hn
          cases hn
          rw [decide_eq_true hb] at hd
          rw [hB hb, n45] at d2
          have hBd := hB hb
          subst hBd
          simp only [lI] at d2
          simp only [rowD, oI]
          clear s2 hB
          walk_at "gd"
          exact ⟨_, rfl⟩
        · rw [if_neg hb] at hn
          rw [decide_eq_false hb] at hd
          cases h2 : numO B with
          | none => rw [h2] at hn; cases hn
          | some m =>
            rw [h2] at hn d2 s2
            cases hn
            simp only [lI, List.isEmpty_cons] at d2 s2
            simp only [rowD, oI]
            clear hB
            walk_at "gd"
            exact ⟨_, rfl⟩
end My

namespace My
open PySem PySem.Spec PyProof.Rows L2 GD
theorem spl_mem (S : List Nat) : ∀ (l : List Nat) (k : Nat) (acc p : List Nat), p ∈ TL.spl S k acc l → ∀ c ∈ p, c ∈ acc ∨ c ∈ l
  | [], k, acc, p, h, c, hc => by
    rw [TL.spl_nil] at h
    rw [List.mem_singleton.mp h] at hc
    exact .inl hc
  | d :: r, 0, acc, p, h, c, hc => by
    cases hp : TL.pre S (d :: r) with
    | true =>
      rw [TL.spl_hit hp] at h
      rcases List.mem_cons.mp h with h | h
      · rw [h] at hc; exact .inl hc
      · rcases spl_mem S r _ _ p h c hc with z | z
        · cases z
        · exact .inr (List.mem_cons_of_mem _ z)
    | false =>
      rw [TL.spl_miss hp] at h
      rcases spl_mem S r _ _ p h c hc with z | z
      · rcases List.mem_append.mp z with z | z
        · exact .inl z
        · rw [List.mem_singleton.mp z]; exact .inr (List.mem_cons_self ..)
      · exact .inr (List.mem_cons_of_mem _ z)
  | d :: r, k + 1, acc, p, h, c, hc => by
    have h : p ∈ TL.spl S k acc r := h
    rcases spl_mem S r k acc p h c hc with z | z
    · exact .inl z
    · exact .inr (List.mem_cons_of_mem _ z)
theorem word_asc {x : Str} (ha : Asc x) : ∀ w ∈ Txt.split x (" " : Str), Asc w ∧ w.length ≤ x.length := by
  intro w hw
  refine ⟨fun c hc => ?_, part_short hw⟩
  have e := TL.split_spl x (" " : Str) (by decide) (TL.kind_ok (by decide +kernel))
  have hm : TL.tl w ∈ TL.spl (TL.tl (" " : Str)) 0 [] (TL.tl x) := by rw [← e]; exact List.mem_map_of_mem hw
  rcases spl_mem _ _ _ _ _ hm c hc with z | z
  · cases z
  · exact ha c z
def allO : List Str → Option (List Row)
  | [] => some []
  | w :: ws => (itemO w).bind fun r => (allO ws).map fun l => r :: l
def wordsOf (x : Str) : List Str := if x = ("" : Str) then [] else Txt.split x (" " : Str)
def dueO (x : Str) : Option (List Row) := (allO (wordsOf x)).bind fun rows => if rows.length ≤ 200 then some rows else none
theorem allO_some : ∀ {ws : List Str} {rows : List Row}, allO ws = some rows → (ws.map fun w => oR (itemO w)) = rows.map rowD ∧ rows.length = ws.length
  | [], rows, h => by cases h; exact ⟨rfl, rfl⟩
  | w :: ws, rows, h => by
    simp only [allO, Option.bind_eq_some_iff, Option.map_eq_some_iff] at h
    obtain ⟨r, h1, l, h2, rfl⟩ := h
    obtain ⟨e1, e2⟩ := allO_some h2
    exact ⟨by rw [List.map_cons, List.map_cons, e1, h1]; rfl, by rw [List.length_cons, List.length_cons, e2]⟩
theorem any_none : ∀ ws : List Str, ((ws.map fun w => oR (itemO w)).any fun z => PyData.eqv z .none) = (allO ws).isNone
  | [] => rfl
  | w :: ws => by
    have ea : allO (w :: ws) = (itemO w).bind fun r => (allO ws).map fun l => r :: l := rfl
    rw [List.map_cons, List.any_cons, any_none ws, ea]
    cases itemO w with
    | none => rfl
    | some r =>
      rw [Option.bind_some]
      cases allO ws <;> rfl
theorem shaped_items : ∀ (ws : List Str), PyData.canLayAll0 (ws.map fun w => oR (itemO w)) = true ∧ PyData.depthAll (ws.map fun w => oR (itemO w)) ≤ 1
  | [] => ⟨by simp [PyData.canLayAll0], by simp [PyData.depthAll]⟩
  | w :: ws => by
    obtain ⟨h1, h2⟩ := shaped_items ws
    rw [List.map_cons]
    constructor
    · rw [PyData.canLayAll0, h1, Bool.and_true]
      cases itemO w with
      | none => simp [oR, PyData.canLay0]
      | some r => obtain ⟨n, o⟩ := r; cases o <;> simp [oR, rowD, oI, PyData.canLay0, PyData.canLayAll0]
    · rw [PyData.depthAll]
      refine Nat.max_le.mpr ⟨?_, h2⟩
      cases itemO w with
      | none => simp [oR, PyData.depth]
      | some r => obtain ⟨n, o⟩ := r; cases o <;> simp [oR, rowD, oI, PyData.depth, PyData.depthAll]
theorem shaped_it (ws : List Str) : SeqAt.shaped (.list (ws.map fun w => oR (itemO w))) = true := by
  obtain ⟨h1, h2⟩ := shaped_items ws
  unfold SeqAt.shaped
  rw [PyData.canLay0, h1, PyData.depth, decide_eq_true (by omega)]
  rfl
def badR : RX := .rs ("InvalidText" : Str) ("line" : Str) (.int 0)
theorem parse_not (d : D) (h : kIs_str d = some false) : m_parse_redirections [d] = some badR := by
  have e0 : env0 3 ([d].map Sl.shr) = [some (.shr d), none, none] := rfl
  unfold m_parse_redirections b_parse_redirections badR
  rw [q_runY, e0]
  walk_at "gd"
theorem parse_ok (x : Str) (ha : Asc x) (hx : x.length ≤ 800000) : m_parse_redirections [.str x] = some (match dueO x with | some rows => .ret (.list (rows.map rowD)) | none => badR) := by
  have e0 : env0 3 ([PyData.str x].map Sl.shr) = [some (.shr (.str x)), none, none] := rfl
  have hk : ∀ x : Str, kIs_str (.str x) = some true := fun _ => rfl
  have hlen : (wordsOf x).length ≤ 900000 := by
    unfold wordsOf
    split
    · simp
    · have := (fact_split x (" " : Str)).2
      omega
  have hin : dIn .none (.list ((wordsOf x).map fun w => oR (itemO w))) = some (.bool (allO (wordsOf x)).isNone) := by rw [c_inL rfl (shaped_it _), any_none]
  have hll : cLen [.list ((wordsOf x).map fun w => oR (itemO w))] = some (.int ((wordsOf x).length : Int)) := by rw [c_lenL, List.length_map]
  have hcomp : ∀ env1 : En, env1 = [some (.shr (.str x)), none, none] → (xIf (tVal (eOp dNe (eVar 0) (eC (.str ("" : Str))))) (xM (eComp [2] (wAny (eX (xM (eBmM "str" mSplit (eVar 0) (aCons (eC (.str (" " : Str))) aNil))))) (gN 2) tYesE (eX (xCall m_item_in (aCons (eGive 2) aNil))))) (xM (eLst aNil))) env1 = some (.inr (.l ((wordsOf x).map fun w => oR (itemO w))), [some (.shr (.str x)), none, none]) := by
    intro env1 he
    subst he
    by_cases hn : x = ("" : Str)
    · have hd : decide (x = ("" : Str)) = true := decide_eq_true hn
      have hw : wordsOf x = [] := if_pos hn
      rw [hw]
      clear hin hll hlen hn
      simp only [List.map_nil]
      walk_at "gd"
    · have hd : decide (x = ("" : Str)) = false := decide_eq_false hn
      have hw : wordsOf x = Txt.split x (" " : Str) := if_neg hn
      have hs := c_split (x := x) (y := (" " : Str)) (by decide) (by omega)
      rw [hw] at hlen ⊢
      have hasc := word_asc ha
      have hc : compE [2] (gN 2) tYesE (eX (xCall m_item_in (aCons (eGive 2) aNil))) ((Txt.split x (" " : Str)).map PyData.str) [] [some (.shr (.str x)), none, none] = some ([] ++ ((Txt.split x (" " : Str)).map fun w => oR (itemO w)), [some (.shr (.str x)), none, none]) := by
        refine comp_all PyData.str (fun w => oR (itemO w)) (Txt.split x (" " : Str)) [] (by simp only [List.length_nil]; omega) fun w hw ds acc hacc => ?_
        have hi := item_in_ok w (hasc w hw).1 (by have := (hasc w hw).2; omega)
        clear hs hin hll hasc
        walk_at "gd"
      rw [List.nil_append] at hc
      clear hin hll hlen hn hw hasc
      generalize ((Txt.split x (" " : Str)).map fun w => oR (itemO w)) = items at *
      walk_at "gd"
  have hcomp := hcomp _ rfl
  have key : (match dueO x with | some rows => RX.ret (.list (rows.map rowD)) | none => badR) = if ((allO (wordsOf x)).isNone || decide (200 < ((wordsOf x).length : Int))) = true then badR else .ret (.list ((wordsOf x).map fun w => oR (itemO w))) := by
    unfold dueO
    cases h : allO (wordsOf x) with
    | none => rfl
    | some rows =>
      obtain ⟨e1, e2⟩ := allO_some h
      rw [Option.bind_some, e1]
      by_cases hr : rows.length ≤ 200
      · have : decide ((200 : Int) < ((wordsOf x).length : Int)) = false := decide_eq_false (by omega)
        rw [if_pos hr, this]; rfl
      · have : decide ((200 : Int) < ((wordsOf x).length : Int)) = true := decide_eq_true (by omega)
        rw [if_neg hr, this]; rfl
  rw [key]
  clear key hlen
  unfold m_parse_redirections b_parse_redirections
  rw [q_runY, e0]
  generalize ((wordsOf x).map fun w => oR (itemO w)) = items at *
  generalize ((wordsOf x).length : Int) = n at *
  generalize (allO (wordsOf x)).isNone = b at *
  generalize xIf (tVal (eOp dNe (eVar 0) (eC (.str ("" : Str))))) (xM (eComp [2] (wAny (eX (xM (eBmM "str" mSplit (eVar 0) (aCons (eC (.str (" " : Str))) aNil))))) (gN 2) tYesE (eX (xCall m_item_in (aCons (eGive 2) aNil))))) (xM (eLst aNil)) = cx at *
  cases b with
  | true =>
    simp only [Bool.true_or, if_true, badR]
    walk_at "gd"
  | false =>
    rw [Bool.false_or]
    by_cases hn : (200 : Int) < n
    · have hd : decide ((200 : Int) < n) = true := decide_eq_true hn
      simp only [hd, if_true, badR]
      clear hn
      walk_at "gd"
    · have hd : decide ((200 : Int) < n) = false := decide_eq_false hn
      simp only [hd, Bool.false_eq_true, if_false]
      clear hn
      walk_at "gd"
theorem heard_bad (d : D) (h : m_parse_redirections [d] = some badR) : m__law_heard [.shr d] = some (.new (.l []), [none]) := by
  have e0 : env0 3 [.shr d] = [some (.shr d), none, none] := rfl
  have k1 : isxk_InvalidText ("InvalidText" : Str) = some true := by decide
  have k2 : isxk_InvalidRow_InvalidScript_InvalidTable ("InvalidText" : Str) = some false := by decide
  have k3 : isxk_TableError ("InvalidText" : Str) = some true := by decide
  have k4 : (([("InvalidText" : Str)] : List Str).contains ("InvalidText" : Str)) = true := by decide
  have k5 : okShow (.int 0) = true := by decide +kernel
  have k6 : decide ((PyData.int 0).shown = ("0" : Str)) = true := by decide +kernel
  unfold badR at h
  unfold m__law_heard b__law_heard
  rw [q_run, e0]
  walk_at "gd"
theorem heard_good (d v : D) (h : m_parse_redirections [d] = some (.ret v)) : m__law_heard [.shr d] = some (.val (.list [v]), [none]) := by
  have e0 : env0 3 [.shr d] = [some (.shr d), none, none] := rfl
  unfold m__law_heard b__law_heard
  rw [q_run, e0]
  walk_at "gd"
/-! the law's reading of a whole text -/
theorem law_loop (line : D) : ∀ (ws : List Str) (acc : List D) (o2 o3 : Option Sl), (∀ w ∈ ws, Asc w ∧ w.length ≤ 800000) → acc.length + ws.length ≤ 900100 →
    (∃ rows, allO ws = some rows ∧ ∃ o2' o3' : Option Sl, forE (gN 2) WB (ws.map .str) [some (.shr line), some (.own false (.l acc)), o2, o3] = some (.nx, [some (.shr line), some (.own false (.l (acc ++ rows.map rowD))), o2', o3'])) ∨
    (allO ws = none ∧ ∃ o1' o2' o3' : Option Sl, forE (gN 2) WB (ws.map .str) [some (.shr line), some (.own false (.l acc)), o2, o3] = some (.rt (.new (.l [])), [some (.shr line), o1', o2', o3']))
  | [], acc, o2, o3, _, _ => .inl ⟨[], rfl, o2, o3, by simp only [List.map_nil, List.append_nil]; rfl⟩
  | w :: ws, acc, o2, o3, hw, hl => by
    rw [List.length_cons] at hl
    have h1 := hw w (List.mem_cons_self ..)
    have step : forE (gN 2) WB ((w :: ws).map .str) [some (.shr line), some (.own false (.l acc)), o2, o3] = forK (gN 2) WB (ws.map .str) (WB [some (.shr line), some (.own false (.l acc)), some (.shr (.str w)), o3]) := by
      rw [List.map_cons, q_forc]
      rfl
    rw [step]
    cases h : itemO w with
    | none =>
      obtain ⟨o3', e⟩ := word_bad w h1.1 (by omega) line acc o3 h
      rw [e]
      refine .inr ⟨by unfold allO; rw [h]; rfl, _, _, _, rfl⟩
    | some r =>
      obtain ⟨o3', e⟩ := word_good w h1.1 (by omega) line acc o3 r h (by omega)
      rw [e]
      rw [q_fork1]
      rcases law_loop line ws (acc ++ [rowD r]) (some (.shr (.str w))) o3' (fun v hv => hw v (List.mem_cons_of_mem _ hv)) (by rw [List.length_append, List.length_singleton]; omega) with ⟨rows, a1, p, q, a2⟩ | ⟨a1, a2⟩
      · refine .inl ⟨r :: rows, by unfold allO; rw [h, a1]; rfl, p, q, ?_⟩
        rw [a2, List.map_cons, List.append_assoc]
        rfl
      · exact .inr ⟨by unfold allO; rw [h, a1]; rfl, a2⟩
def dueL (x : Str) : List D := match dueO x with
  | some rows => [.list (rows.map rowD)]
  | none => []
theorem rows_not (d : D) (h : kIs_str d = some false) : m__law_rows_due [.shr d] = some (.new (.l []), [none]) := by
  have e0 : env0 4 [.shr d] = [some (.shr d), none, none, none] := rfl
  unfold m__law_rows_due b__law_rows_due
  rw [q_run, e0]
  walk_at "gd"
theorem rows_ok (x : Str) (ha : Asc x) (hx : x.length ≤ 800000) : m__law_rows_due [.shr (.str x)] = some (.new (.l (dueL x)), [none]) := by
  have e0 : env0 4 [.shr (.str x)] = [some (.shr (.str x)), none, none, none] := rfl
  have hk : ∀ x : Str, kIs_str (.str x) = some true := fun _ => rfl
  have hlen : (wordsOf x).length ≤ 900000 := by
    unfold wordsOf
    split
    · simp
    · have := (fact_split x (" " : Str)).2
      omega
  have hwi : ∀ o2 o3 : Option Sl, (wAny (eX (xIf (tVal (eOp dEq (eVar 0) (eC (.str ("" : Str))))) (xM (eLst aNil)) (xM (eBmM "str" mSplit (eVar 0) (aCons (eC (.str (" " : Str))) aNil)))))) [some (.shr (.str x)), some (.own false (.l [])), o2, o3] = some ((wordsOf x).map .str, [some (.shr (.str x)), some (.own false (.l [])), o2, o3]) := by
    intro o2 o3
    by_cases hn : x = ("" : Str)
    · have hd : decide (x = ("" : Str)) = true := decide_eq_true hn
      have hw : wordsOf x = [] := if_pos hn
      rw [hw]
      clear hn hlen
      simp only [List.map_nil]
      walk_at "gd"
    · have hd : decide (x = ("" : Str)) = false := decide_eq_false hn
      have hw : wordsOf x = Txt.split x (" " : Str) := if_neg hn
      have hs := c_split (x := x) (y := (" " : Str)) (by decide) (by omega)
      rw [hw] at hlen ⊢
      clear hn hlen hw
      walk_at "gd"
  have hasc : ∀ w ∈ wordsOf x, Asc w ∧ w.length ≤ 800000 := by
    intro w hw
    unfold wordsOf at hw
    split at hw
    · cases hw
    · have := word_asc ha w hw
      exact ⟨this.1, by have := this.2; omega⟩
  have hloop := law_loop (.str x) (wordsOf x) [] none none hasc (by simp only [List.length_nil]; omega)
  have hw0 := hwi none none
  clear hwi hasc
  generalize hfw : wAny (eX (xIf (tVal (eOp dEq (eVar 0) (eC (.str ("" : Str))))) (xM (eLst aNil)) (xM (eBmM "str" mSplit (eVar 0) (aCons (eC (.str (" " : Str))) aNil))))) = fw at *
  have hb : b__law_rows_due = (sSeq (sIf (tfNot (tVal (eIsi "str" kIs_str (eVar 0)))) (sRetX (xM (eLst aNil))) sNext) (sSeq (sSetX 1 (xM (eLst aNil))) (sSeq (sFor fw (gN 2) WB) (sRetX (xIf (tVal (eOp dLt (eCa cLen (aCons (eVar 1) aNil)) (eC (.int 201)))) (xM (eLst (aCons (eGive 1) aNil))) (xM (eLst aNil))))))) := by
    rw [← hfw]; rfl
  unfold m__law_rows_due dueL dueO
  rw [hb, q_run, e0]
  clear hb hfw
  rcases hloop with ⟨rows, h1, o2', o3', h2⟩ | ⟨h1, o1', o2', o3', h2⟩
  · obtain ⟨e1, e2⟩ := allO_some h1
    rw [h1, Option.bind_some]
    rw [List.nil_append] at h2
    have hle : (rows.map rowD).length = rows.length := List.length_map ..
    by_cases hr : rows.length ≤ 200
    · have hd : decide (((rows.map rowD).length : Int) < 201) = true := decide_eq_true (by omega)
      rw [if_pos hr]
      dsimp only
      clear hr e1 e2 hle h1 hlen
      generalize rows.map rowD = rs at *
      generalize WB = wb at *
      walk_at "gd"
    · have hd : decide (((rows.map rowD).length : Int) < 201) = false := decide_eq_false (by omega)
      rw [if_neg hr]
      clear hr e1 e2 hle h1 hlen
      generalize rows.map rowD = rs at *
      generalize WB = wb at *
      walk_at "gd"
  · rw [h1]
    simp only [Option.bind_none]
    generalize WB = wb at *
    clear h1 hlen
    walk_at "gd"
end My

namespace My
open PySem PySem.Spec PyProof.Rows L2 GD
def Pl (n : Nat) (x : Str) : Prop := Asc x ∧ x.length ≤ n
theorem Pl.mono {n m : Nat} {x : Str} (h : Pl n x) (k : n ≤ m) : Pl m x := ⟨h.1, Nat.le_trans h.2 k⟩
theorem len_app (x y : Str) : (x ++ y).length = x.length + y.length := by rw [TL.len_tl, TL.tl_append, List.length_append, ← TL.len_tl, ← TL.len_tl]
theorem Pl.app {n m : Nat} {x y : Str} (h : Pl n x) (k : Pl m y) : Pl (n + m) (x ++ y) := by
  refine ⟨fun c hc => ?_, by rw [len_app]; have := h.2; have := k.2; omega⟩
  rw [TL.tl_append] at hc
  rcases List.mem_append.mp hc with hc | hc
  · exact h.1 c hc
  · exact k.1 c hc
theorem Pl.cut {n : Nat} {x : Str} (h : Pl n x) (lo hi : Option Int) : Pl n (cutS x lo hi) :=
  ⟨fun c hc => h.1 c (List.mem_of_mem_drop (List.mem_of_mem_take (show c ∈ ((x.cps.toList.drop (HT.sIx x.length 0 lo)).take (HT.sIx x.length x.length hi - HT.sIx x.length 0 lo)) from hc))), Nat.le_trans (cutS_length x lo hi) h.2⟩
/-! lists of words -/
def wt (ws : List Str) : Nat := (ws.map (·.length)).sum + ws.length
theorem wt_nil : wt [] = 0 := rfl
theorem wt_cons (w : Str) (ws : List Str) : wt (w :: ws) = w.length + 1 + wt ws := by unfold wt; simp only [List.map_cons, List.sum_cons, List.length_cons]; omega
theorem wt_app : ∀ (a b : List Str), wt (a ++ b) = wt a + wt b
  | [], b => by rw [List.nil_append, wt_nil]; omega
  | x :: a, b => by rw [List.cons_append, wt_cons, wt_cons, wt_app a b]; omega
theorem wt_take (ws : List Str) (n : Nat) : wt (ws.take n) ≤ wt ws := by
  have := wt_app (ws.take n) (ws.drop n)
  rw [List.take_append_drop] at this
  omega
theorem wt_drop (ws : List Str) (n : Nat) : wt (ws.drop n) ≤ wt ws := by
  have := wt_app (ws.take n) (ws.drop n)
  rw [List.take_append_drop] at this
  omega
def cutW (ws : List Str) (lo hi : Option Int) : List Str := (ws.drop (HT.sIx ws.length 0 lo)).take (HT.sIx ws.length ws.length hi - HT.sIx ws.length 0 lo)
theorem cutW_map (ws : List Str) (lo hi : Option Int) : GD.cutD (ws.map .str) lo hi = (cutW ws lo hi).map .str := by
  unfold GD.cutD cutW
  rw [List.length_map, List.map_take, List.map_drop]
theorem cutW_wt (ws : List Str) (lo hi : Option Int) : wt (cutW ws lo hi) ≤ wt ws := Nat.le_trans (wt_take _ _) (wt_drop _ _)
theorem cutW_mem {ws : List Str} {lo hi : Option Int} {w : Str} (h : w ∈ cutW ws lo hi) : w ∈ ws := List.mem_of_mem_drop (List.mem_of_mem_take h)
theorem joinL_signs (P : Nat → Prop) (h32 : P 32) : ∀ l : List (List Nat), (∀ p ∈ l, ∀ c ∈ p, P c) → ∀ c ∈ TL.joinL [32] l, P c
  | [], _, c, hc => by cases hc
  | [x], h, c, hc => h x (List.mem_singleton.mpr rfl) c hc
  | x :: z :: r, h, c, hc => by
    have hc : c ∈ x ++ ([32] ++ TL.joinL [32] (z :: r)) := hc
    rcases List.mem_append.mp hc with hc | hc
    · exact h x (List.mem_cons_self ..) c hc
    · rcases List.mem_append.mp hc with hc | hc
      · rw [List.mem_singleton.mp hc]; exact h32
      · exact joinL_signs P h32 (z :: r) (fun p hp => h p (List.mem_cons_of_mem _ hp)) c hc
theorem joinL_len : ∀ l : List Str, (TL.joinL [32] (l.map TL.tl)).length ≤ wt l
  | [] => Nat.zero_le _
  | [x] => by
    show (TL.tl x).length ≤ _
    rw [wt_cons, wt_nil, ← TL.len_tl]; omega
  | x :: z :: r => by
    have ih := joinL_len (z :: r)
    show (TL.tl x ++ ([32] ++ TL.joinL [32] ((z :: r).map TL.tl))).length ≤ _
    rw [wt_cons, List.length_append, List.length_append, ← TL.len_tl]
    simp only [List.length_cons, List.length_nil]
    omega
theorem join_pl {ws : List Str} (h : ∀ w ∈ ws, Asc w) : Pl (wt ws) (Txt.join (" " : Str) ws) := by
  have e : TL.tl (Txt.join (" " : Str) ws) = TL.joinL [32] (ws.map TL.tl) := by rw [TL.join_eq, TL.tl_join]; rfl
  refine ⟨fun c hc => ?_, by rw [TL.len_tl, e]; exact joinL_len ws⟩
  rw [e] at hc
  refine joinL_signs (fun c => c < 128) (by decide) _ (fun p hp c hc => ?_) c hc
  obtain ⟨w, hw, rfl⟩ := List.mem_map.mp hp
  exact h w hw c hc
theorem join_ok {ws : List Str} (h : wt ws ≤ 1000000) : mJoin (.str (" " : Str)) [.list (ws.map .str)] = some (.str (Txt.join (" " : Str) ws)) := by
  refine c_join ws ?_
  have h1 : (" " : Str).length = 1 := by decide
  unfold wt at h
  rw [h1]; omega
theorem add_strs {a b : List Str} (h : a.length + b.length ≤ 1000000) : dAddX (.list (a.map .str)) (.list (b.map .str)) = some (.inr (.l ((a ++ b).map .str))) := by
  rw [c_addL (by rw [List.length_map, List.length_map]; exact h), List.map_append]
theorem len_wt (ws : List Str) : ws.length ≤ wt ws := by unfold wt; omega
/-! numbers as texts -/
theorem nT_pl {k : Int} (h0 : 0 ≤ k) (h1 : k ≤ 999) : Pl 3 (nT k) ∧ cStr [.int k] = some (.str (nT k)) := by
  obtain ⟨m, rfl⟩ := Int.eq_ofNat_of_zero_le h0
  have e : TL.tl (nT (m : Int)) = TL.numL m := TL.tl_num m
  refine ⟨⟨fun c hc => ?_, ?_⟩, c_strI ?_⟩
  · rw [e] at hc
    have := TL.numL_digits m c hc
    omega
  · rw [TL.len_tl, e]
    exact TL.numL_len (by decide) (by omega)
  · have h1 : ((m : Int)).natAbs < 1024 := by omega
    by_cases hz : ((m : Int)).natAbs = 0
    · rw [hz]; decide
    · have := (Nat.log2_lt hz (k := 10)).mpr h1; omega
theorem lit_pl (x : Str) (n : Nat) (h : (TL.tl x).all (fun c => decide (c < 128)) = true) (hl : x.length ≤ n) : Pl n x := ⟨fun c hc => of_decide_eq_true (List.all_eq_true.mp h c hc), hl⟩
theorem str_at (ps : List Str) (i : Int) (h : 0 ≤ i) (h2 : i < ps.length) : ∃ p ∈ ps, atI (ps.map PyData.str) i = some (.str p) := by
  rw [c_at h (by rw [List.length_map]; exact h2)]
  have hlt : i.toNat < ps.length := by omega
  exact ⟨ps[i.toNat], List.getElem_mem hlt, by simp [hlt]⟩
theorem sign_at (l : List Nat) (i : Int) (h : 0 ≤ i) (h2 : i < l.length) : ∃ c ∈ l, atI l i = some c := by
  have hlt : i.toNat < l.length := by omega
  exact ⟨l[i.toNat], List.getElem_mem hlt, by simp [atI, ixN, h, h2]⟩
abbrev T1 : EvS := (sSetX 3 (xE (eOp dIx (eX (xM (eLst (aCons (eCa cStr (aCons (eX (xCall m__law_draw (aCons (eVar 0) (aCons (eC (.int 100)) aNil)))) aNil)) (aCons (eCa cStr (aCons (eX (xCall m__law_draw (aCons (eVar 0) (aCons (eC (.int 12)) aNil)))) aNil)) (aCons (eC (.str ("-" : Str))) (aCons (eC (.str ("999" : Str))) aNil))))))) (eX (xCall m__law_draw (aCons (eVar 0) (aCons (eC (.int 4)) aNil)))))))
abbrev T2 : EvS := (sDrop (eMt "list" gApp 1 (aCons (eX (xOp dAddX (eX (xOp dAddX (eCa cStr (aCons (eOp dIx (eX (xM (eLst (aCons (eX (xCall m__law_draw (aCons (eVar 0) (aCons (eC (.int 12)) aNil)))) (aCons (eX (xCall m__law_draw (aCons (eVar 0) (aCons (eC (.int 1000)) aNil)))) aNil))))) (eX (xCall m__law_draw (aCons (eVar 0) (aCons (eC (.int 2)) aNil))))) aNil)) (eC (.str (">&" : Str))))) (eVar 3))) aNil)))
abbrev TB : EvS := (sSeq T1 T2)
theorem text_loop (ns : List Int) : ∀ (ds : List D) (ws : List Str) (idx great : Int) (o2 o3 : Option Sl), 0 ≤ idx → idx + 7 * ds.length < 1048570 → 0 ≤ great → (∀ w ∈ ws, Pl 8 w) → ws.length + ds.length ≤ 1000 →
    ∃ (ws' : List Str) (idx' great' : Int) (o2' o3' : Option Sl), forE (gN 2) TB ds [some (.own true (pen ns idx great)), some (.own false (.l (ws.map .str))), o2, o3] = some (.nx, [some (.own true (pen ns idx' great')), some (.own false (.l (ws'.map .str))), o2', o3']) ∧
      (∀ w ∈ ws', Pl 8 w) ∧ ws'.length = ws.length + ds.length ∧ idx ≤ idx' ∧ idx' ≤ idx + 7 * ds.length ∧ 0 ≤ great'
  | [], ws, idx, great, o2, o3, h0, h1, hg, hr, hl => ⟨ws, idx, great, o2, o3, rfl, hr, rfl, by simp, by simp, hg⟩
  | d :: ds, ws, idx, great, o2, o3, h0, h1, hg, hr, hl => by
    simp only [List.length_cons] at h1 hl
    obtain ⟨r1, i1, g1, e1, a1, b1, c1, d1, f1⟩ := draw_ok ns idx great 100 h0 (by omega) hg (by omega) (by omega)
    obtain ⟨r2, i2, g2, e2, a2, b2, c2, d2, f2⟩ := draw_ok ns i1 g1 12 (by omega) (by omega) f1 (by omega) (by omega)
    obtain ⟨r3, i3, g3, e3, a3, b3, c3, d3, f3⟩ := draw_ok ns i2 g2 4 (by omega) (by omega) f2 (by omega) (by omega)
    obtain ⟨r4, i4, g4, e4, a4, b4, c4, d4, f4⟩ := draw_ok ns i3 g3 12 (by omega) (by omega) f3 (by omega) (by omega)
    obtain ⟨r5, i5, g5, e5, a5, b5, c5, d5, f5⟩ := draw_ok ns i4 g4 1000 (by omega) (by omega) f4 (by omega) (by omega)
    obtain ⟨r6, i6, g6, e6, a6, b6, c6, d6, f6⟩ := draw_ok ns i5 g5 2 (by omega) (by omega) f5 (by omega) (by omega)
    obtain ⟨n1, s1⟩ := nT_pl (k := r1) a1 (by omega)
    obtain ⟨n2, s2⟩ := nT_pl (k := r2) a2 (by omega)
    obtain ⟨src, hs, hsat⟩ := str_at [nT r1, nT r2, ("-" : Str), ("999" : Str)] r3 a3 (by simp only [List.length_cons, List.length_nil]; omega)
    have hsp : Pl 3 src := by
      have h : ∀ p ∈ [nT r1, nT r2, ("-" : Str), ("999" : Str)], Pl 3 p := by
        intro p hp
        simp only [List.mem_cons, List.not_mem_nil, or_false] at hp
        rcases hp with rfl | rfl | rfl | rfl
        · exact n1
        · exact n2
        · exact lit_pl _ _ (by decide) (by decide)
        · exact lit_pl _ _ (by decide) (by decide)
      exact h src hs
    have hk : ∃ r, atI [PyData.int r4, .int r5] r6 = some (.int r) ∧ 0 ≤ r ∧ r ≤ 999 := by
      have : r6 = 0 ∨ r6 = 1 := by omega
      rcases this with h | h <;> subst h <;> exact ⟨_, rfl, by omega, by omega⟩
    obtain ⟨r, hrat, hr0, hr1⟩ := hk
    obtain ⟨n3, s3⟩ := nT_pl (k := r) hr0 hr1
    have hp2 : Pl 2 (">&" : Str) := lit_pl _ _ (by decide) (by decide)
    have z1 := c_addS (x := nT r) (y := (">&" : Str)) (by have := n3.2; have := hp2.2; omega)
    have z2 := c_addS (x := nT r ++ (">&" : Str)) (y := src) (by have := (n3.app hp2).2; have := hsp.2; omega)
    have hw : Pl 8 (nT r ++ (">&" : Str) ++ src) := (n3.app hp2).app hsp
    have hn : (ws.map PyData.str).length ≤ 1000000 := by rw [List.length_map]; omega
    have hap : gApp (.l (ws.map PyData.str)) [.str (nT r ++ (">&" : Str) ++ src)] = some (.l ((ws ++ [nT r ++ (">&" : Str) ++ src]).map PyData.str), .none) := by rw [c_app hn]; simp
    obtain ⟨ws', i', g', p2, p3, ih, q1, q2, q3, q4, q5⟩ := text_loop ns ds (ws ++ [nT r ++ (">&" : Str) ++ src]) i6 g6 (some (.shr d)) (some (.shr (.str src))) (by omega) (by omega) f6
      (fun w h => by
        rcases List.mem_append.mp h with h | h
        · exact hr w h
        · rw [List.mem_singleton.mp h]; exact hw) (by rw [List.length_append, List.length_singleton]; omega)
    refine ⟨ws', i', g', p2, p3, ?_, q1, by rw [q2, List.length_append, List.length_singleton, List.length_cons]; omega, by omega, by rw [List.length_cons]; omega, q5⟩
    simp only [List.map_cons, List.map_nil] at hsat
    rw [← ih]
    clear ih hr q1 hn hs
    generalize (ws ++ [nT r ++ (">&" : Str) ++ src]).map PyData.str = WS2 at *
    generalize ws.map PyData.str = WS at *
    generalize nT r ++ (">&" : Str) ++ src = wd at *
    generalize nT r ++ (">&" : Str) = w0 at *
    walk_at "gd"
theorem range_len (a : Int) (n : Nat) : (rangeD a n).length = n := by simp [rangeD]
theorem wt_le {k : Nat} : ∀ {ws : List Str}, (∀ w ∈ ws, w.length ≤ k) → wt ws ≤ (k + 1) * ws.length
  | [], _ => Nat.zero_le _
  | w :: ws, h => by
    have h1 := h w (List.mem_cons_self ..)
    have h2 := wt_le fun v hv => h v (List.mem_cons_of_mem _ hv)
    rw [wt_cons, List.length_cons, Nat.mul_succ]
    omega
theorem drawn_text_ok (ns : List Int) (idx great : Int) (h0 : 0 ≤ idx) (h1 : idx + 120 < 1048570) (hg : 0 ≤ great) :
    ∃ (x : Str) (idx' great' : Int), m__law_drawn_text [.own true (pen ns idx great)] = some (.val (.str x), [some (pen ns idx' great')]) ∧ Pl 200 x ∧ idx ≤ idx' ∧ idx' ≤ idx + 120 ∧ 0 ≤ great' := by
  obtain ⟨r1, i1, g1, e1, a1, b1, c1, d1, f1⟩ := draw_ok ns idx great 16 h0 (by omega) hg (by omega) (by omega)
  have e0 : env0 4 [.own true (pen ns idx great)] = [some (.own true (pen ns idx great)), none, none, none] := rfl
  have k1 : -4611686018427387904 ≤ r1 := by omega
  have k2 : r1 < 4611686018427387904 := by omega
  have k3 := range_len 0 r1.toNat
  obtain ⟨ws, i3, g3, p2, p3, ih, q1, q2, q3, q4, q5⟩ := text_loop ns (rangeD 0 r1.toNat) [] i1 g1 none none (by omega) (by omega) f1 (fun r h => by cases h) (by rw [k3]; simp; omega)
  simp only [List.length_nil] at q2
  have hwt : wt ws ≤ 9 * ws.length := wt_le fun w hw => (q1 w hw).2
  have hj := join_ok (ws := ws) (by omega)
  have hp := join_pl (ws := ws) fun w hw => (q1 w hw).1
  refine ⟨Txt.join (" " : Str) ws, i3, g3, ?_, hp.mono (by omega), by omega, by omega, q5⟩
  simp only [List.map_nil] at ih
  clear q1 hp
  unfold m__law_drawn_text b__law_drawn_text
  rw [q_run, e0]
  generalize hTB : TB = tb at *
  have hTB2 := hTB
  unfold TB at hTB2
  generalize ws.map PyData.str = WS at *
  generalize Txt.join (" " : Str) ws = jx at *
  simp only [hTB2]
  walk_at "gd"
end My

namespace My
open PySem PySem.Spec PyProof.Rows L2 GD
def sgs : Str := (" 0123456789>&-+~a_.;" : Str) ++ ("\n" : Str)
def oddL : List Str := [("01>&2" : Str), ("1>&02" : Str), ("1000>&1" : Str), ("1>&1000" : Str), ("1>&--" : Str), (">&1" : Str), ("1>&" : Str), ("1&>2" : Str), ("1>2" : Str), ("1<&2" : Str), ("1>&2>&3" : Str), ("a>&1" : Str), ("- >&1" : Str)]
theorem odd_pl : ∀ p ∈ oddL, Pl 7 p := by
  have h : (oddL.all fun p => (TL.tl p).all (fun c => decide (c < 128)) && decide (p.length ≤ 7)) = true := by decide +kernel
  intro p hp
  have := List.all_eq_true.mp h p hp
  rw [Bool.and_eq_true] at this
  exact lit_pl p 7 this.1 (of_decide_eq_true this.2)
theorem bent_ok (ns : List Int) (idx great : Int) (x : Str) (L : Nat) (hx : Pl L x) (hL : L ≤ 20000) (h0 : 0 ≤ idx) (h1 : idx + 8 < 1048570) (hg : 0 ≤ great) :
    ∃ (y : Str) (idx' great' : Int), m__law_bent_text [.own true (pen ns idx great), .shr (.str x)] = some (.val (.str y), [some (pen ns idx' great'), none]) ∧ Pl (3 * L + 30) y ∧ idx ≤ idx' ∧ idx' ≤ idx + 8 ∧ 0 ≤ great' := by
  have hxl := hx.2
  obtain ⟨at1, i1, g1, e1, a1, b1, c1, d1, f1⟩ := draw_ok ns idx great ((x.length : Int) + 1) h0 (by omega) hg (by omega) (by omega)
  obtain ⟨r2, i2, g2, e2, a2, b2, c2, d2, f2⟩ := draw_ok ns i1 g1 21 (by omega) (by omega) f1 (by omega) (by omega)
  obtain ⟨r3, i3, g3, e3, a3, b3, c3, d3, f3⟩ := draw_ok ns i2 g2 8 (by omega) (by omega) f2 (by omega) (by omega)
  have hsplit := c_split (x := x) (y := (" " : Str)) (by decide) (by omega)
  have hwa := word_asc hx.1
  have hww : wt (Txt.split x (" " : Str)) ≤ x.length + 1 := split_weight x (" " : Str) (by decide)
  have hpos := (fact_split x (" " : Str)).1
  generalize Txt.split x (" " : Str) = ws at *
  have hwl := len_wt ws
  obtain ⟨kk, i4, g4, e4, a4, b4, c4, d4, f4⟩ := draw_ok ns i3 g3 (ws.length : Int) (by omega) (by omega) f3 (by omega) (by omega)
  obtain ⟨r5, i5, g5, e5, a5, b5, c5, d5, f5⟩ := draw_ok ns i4 g4 13 (by omega) (by omega) f4 (by omega) (by omega)
  obtain ⟨r6, i6, g6, e6, a6, b6, c6, d6, f6⟩ := draw_ok ns i5 g5 9 (by omega) (by omega) f5 (by omega) (by omega)
  have e0 : env0 10 [.own true (pen ns idx great), .shr (.str x)] = [some (.own true (pen ns idx great)), some (.shr (.str x)), none, none, none, none, none, none, none, none] := rfl
  -- the sign
  have hsl : sgs.cps.toList.length = 21 := by decide +kernel
  have hsa : (sgs.cps.toList.all fun c => decide (c < 128)) = true := by decide +kernel
  obtain ⟨c, hc, hcat⟩ := sign_at sgs.cps.toList r2 a2 (by rw [hsl]; omega)
  have hsg : dIx (.str sgs) (.int r2) = some (.str ⟨#[c]⟩) := by rw [c_ixS (by decide +kernel), hcat]; rfl
  have psg : Pl 2 (⟨#[c]⟩ : Str) := ⟨fun d hd => by
    have : d = c := List.mem_singleton.mp hd
    rw [this]; exact of_decide_eq_true (List.all_eq_true.mp hsa c hc), by show 1 ≤ 2; decide⟩
  have hsum : dAddX (.str (" 0123456789>&-+~a_.;" : Str)) (.str ("\n" : Str)) = some (.inl (.str sgs)) := c_addS (by decide +kernel)
  obtain ⟨sg, hsgm, hsgat⟩ := str_at [(⟨#[c]⟩ : Str), (">&" : Str), ("0" : Str), (" " : Str), (">" : Str), ("&" : Str), ("00" : Str), ("-1" : Str)] r3 a3 (by simp only [List.length_cons, List.length_nil]; omega)
  have psg2 : Pl 2 sg := by
    simp only [List.mem_cons, List.not_mem_nil, or_false] at hsgm
    rcases hsgm with rfl | rfl | rfl | rfl | rfl | rfl | rfl | rfl
    · exact psg
    all_goals exact lit_pl _ _ (by decide) (by decide)
  -- the cut texts
  have pA1 := hx.cut none (some at1)
  have pA2 := hx.cut (some at1) none
  have pA3 := hx.cut (some (at1 + 1)) none
  have y1 : dAddX (.str (cutS x none (some at1))) (.str sg) = some (.inl (.str (cutS x none (some at1) ++ sg))) := c_addS (by have := pA1.2; have := psg2.2; omega)
  have y2 : dAddX (.str (cutS x none (some at1) ++ sg)) (.str (cutS x (some at1) none)) = some (.inl (.str (cutS x none (some at1) ++ sg ++ cutS x (some at1) none))) := c_addS (by have := (pA1.app psg2).2; have := pA2.2; omega)
  have y3 : dAddX (.str (cutS x none (some at1))) (.str (cutS x (some (at1 + 1)) none)) = some (.inl (.str (cutS x none (some at1) ++ cutS x (some (at1 + 1)) none))) := c_addS (by have := pA1.2; have := pA3.2; omega)
  have y4 : dAddX (.str (cutS x none (some at1) ++ sg)) (.str (cutS x (some (at1 + 1)) none)) = some (.inl (.str (cutS x none (some at1) ++ sg ++ cutS x (some (at1 + 1)) none))) := c_addS (by have := (pA1.app psg2).2; have := pA3.2; omega)
  have y5 : dAddX (.str (" " : Str)) (.str x) = some (.inl (.str ((" " : Str) ++ x))) := c_addS (by have q : (" " : Str).length = 1 := (by decide); omega)
  have y6 : dAddX (.str x) (.str (" " : Str)) = some (.inl (.str (x ++ (" " : Str)))) := c_addS (by have q : (" " : Str).length = 1 := (by decide); omega)
  have y7 : dAddX (.str x) (.str ("\n" : Str)) = some (.inl (.str (x ++ ("\n" : Str)))) := c_addS (by have q : ("\n" : Str).length = 1 := (by decide); omega)
  have p1 : Pl 1 (" " : Str) := lit_pl _ _ (by decide) (by decide)
  have p1n : Pl 1 ("\n" : Str) := lit_pl _ _ (by decide) (by decide)
  -- the words
  obtain ⟨od, hodm, hodat⟩ := str_at oddL r5 a5 (by show r5 < 13; omega)
  have podd := odd_pl od hodm
  have hodat : atI ((oddL.take 9).map PyData.str ++ (oddL.drop 9).map PyData.str) r5 = some (.str od) := hodat
  have hoddsum : dAddX (.list ((oddL.take 9).map .str)) (.list ((oddL.drop 9).map .str)) = some (.inr (.l (oddL.map .str))) := rfl
  have w1 := cutW_wt ws none (some kk)
  have w2 := cutW_wt ws (some (kk + 1)) none
  have w3 := cutW_wt ws (some kk) (some (kk + 1))
  have w4 := cutW_wt ws (some kk) none
  have m1 := cutW_map ws none (some kk)
  have m2 := cutW_map ws (some (kk + 1)) none
  have m3 := cutW_map ws (some kk) (some (kk + 1))
  have m4 := cutW_map ws (some kk) none
  have s1 : ∀ w ∈ cutW ws none (some kk), Asc w := fun w hw => (hwa w (cutW_mem hw)).1
  have s2 : ∀ w ∈ cutW ws (some (kk + 1)) none, Asc w := fun w hw => (hwa w (cutW_mem hw)).1
  have s3 : ∀ w ∈ cutW ws (some kk) (some (kk + 1)), Asc w := fun w hw => (hwa w (cutW_mem hw)).1
  have s4 : ∀ w ∈ cutW ws (some kk) none, Asc w := fun w hw => (hwa w (cutW_mem hw)).1
  generalize cutW ws none (some kk) = C1 at *
  generalize cutW ws (some (kk + 1)) none = C2 at *
  generalize cutW ws (some kk) (some (kk + 1)) = C3 at *
  generalize cutW ws (some kk) none = C4 at *
  have hod : wt [od] ≤ 8 := by rw [wt_cons, wt_nil]; have := podd.2; omega
  have l1 := len_wt C1
  have l2 := len_wt C2
  have l3 := len_wt C3
  have l4 := len_wt C4
  have t1 : dAddX (.list (C1.map .str)) (.list [.str od]) = some (.inr (.l ((C1 ++ [od]).map .str))) := add_strs (b := [od]) (by simp only [List.length_cons, List.length_nil]; omega)
  have t2 : dAddX (.list ((C1 ++ [od]).map .str)) (.list (C2.map .str)) = some (.inr (.l ((C1 ++ [od] ++ C2).map .str))) := add_strs (by rw [List.length_append]; simp only [List.length_cons, List.length_nil]; omega)
  have wJ1 : wt (C1 ++ [od] ++ C2) ≤ 2 * L + 11 := by rw [wt_app, wt_app]; omega
  have j1 := join_ok (ws := C1 ++ [od] ++ C2) (by omega)
  have pJ1 := join_pl (ws := C1 ++ [od] ++ C2) fun w hw => by
    rcases List.mem_append.mp hw with hw | hw
    · rcases List.mem_append.mp hw with hw | hw
      · exact s1 w hw
      · rw [List.mem_singleton.mp hw]; exact podd.1
    · exact s2 w hw
  have t3 : dAddX (.list (C1.map .str)) (.list (C3.map .str)) = some (.inr (.l ((C1 ++ C3).map .str))) := add_strs (by omega)
  have t4 : dAddX (.list ((C1 ++ C3).map .str)) (.list (C4.map .str)) = some (.inr (.l ((C1 ++ C3 ++ C4).map .str))) := add_strs (by rw [List.length_append]; omega)
  have wJ2 : wt (C1 ++ C3 ++ C4) ≤ 3 * L + 3 := by rw [wt_app, wt_app]; omega
  have j2 := join_ok (ws := C1 ++ C3 ++ C4) (by omega)
  have pJ2 := join_pl (ws := C1 ++ C3 ++ C4) fun w hw => by
    rcases List.mem_append.mp hw with hw | hw
    · rcases List.mem_append.mp hw with hw | hw
      · exact s1 w hw
      · exact s3 w hw
    · exact s4 w hw
  obtain ⟨y, hy, hyat⟩ := str_at [cutS x none (some at1) ++ sg ++ cutS x (some at1) none, cutS x none (some at1) ++ cutS x (some (at1 + 1)) none, cutS x none (some at1) ++ sg ++ cutS x (some (at1 + 1)) none, cutS x none (some at1),
    Txt.join (" " : Str) (C1 ++ [od] ++ C2), (" " : Str) ++ x, x ++ (" " : Str), x ++ ("\n" : Str), Txt.join (" " : Str) (C1 ++ C3 ++ C4)] r6 a6 (by simp only [List.length_cons, List.length_nil]; omega)
  have py : Pl (3 * L + 30) y := by
    simp only [List.mem_cons, List.not_mem_nil, or_false] at hy
    rcases hy with rfl | rfl | rfl | rfl | rfl | rfl | rfl | rfl | rfl
    · exact ((pA1.app psg2).app pA2).mono (by omega)
    · exact (pA1.app pA3).mono (by omega)
    · exact ((pA1.app psg2).app pA3).mono (by omega)
    · exact pA1.mono (by omega)
    · exact pJ1.mono (by omega)
    · exact (p1.app hx).mono (by omega)
    · exact (hx.app p1).mono (by omega)
    · exact (hx.app p1n).mono (by omega)
    · exact pJ2.mono (by omega)
  refine ⟨y, i6, g6, ?_, py, by omega, by omega, f6⟩
  simp only [List.map_cons, List.map_nil] at hsgat hyat
  have hxm : x.length ≤ 1000000 := by omega
  have hll : cLen [.list (ws.map PyData.str)] = some (.int (ws.length : Int)) := by rw [c_lenL, List.length_map]
  have k1 : (-18446744073709551616 : Int) < at1 := by omega
  have k2 : at1 < (18446744073709551616 : Int) := by omega
  have k3 : (-18446744073709551616 : Int) < kk := by omega
  have k4 : kk < (18446744073709551616 : Int) := by omega
  clear py hy pJ1 pJ2 wJ1 wJ2 s1 s2 s3 s4 w1 w2 w3 w4 l1 l2 l3 l4 hod hodm podd psg psg2 hsgm pA1 pA2 pA3 p1 p1n hsa hsl hc hcat hwa hww hpos hwl hx hxl hL
  unfold oddL at hodat
  simp only [List.take, List.drop, List.map_cons, List.map_nil, List.cons_append, List.nil_append] at hodat
  unfold m__law_bent_text b__law_bent_text
  rw [q_run, e0]
  generalize cutS x none (some at1) ++ sg ++ cutS x (some at1) none = Y2 at *
  generalize cutS x none (some at1) ++ sg ++ cutS x (some (at1 + 1)) none = Y4 at *
  generalize cutS x none (some at1) ++ sg = Y1 at *
  generalize cutS x none (some at1) ++ cutS x (some (at1 + 1)) none = Y3 at *
  generalize hq1 : cutS x none (some at1) = Q1 at *
  generalize hq2 : cutS x (some at1) none = Q2 at *
  generalize hq3 : cutS x (some (at1 + 1)) none = Q3 at *
  generalize (" " : Str) ++ x = Y5 at *
  generalize x ++ (" " : Str) = Y6 at *
  generalize x ++ ("\n" : Str) = Y7 at *
  generalize Txt.join (" " : Str) (C1 ++ [od] ++ C2) = J1 at *
  generalize Txt.join (" " : Str) (C1 ++ C3 ++ C4) = J2 at *
  generalize (C1 ++ [od] ++ C2).map PyData.str = D2 at *
  generalize (C1 ++ [od]).map PyData.str = D1 at *
  generalize (C1 ++ C3 ++ C4).map PyData.str = D4 at *
  generalize (C1 ++ C3).map PyData.str = D3 at *
  generalize C1.map PyData.str = E1 at *
  generalize C2.map PyData.str = E2 at *
  generalize C3.map PyData.str = E3 at *
  generalize C4.map PyData.str = E4 at *
  generalize ws.map PyData.str = WS at *
  generalize (ws.length : Int) = wl at *
  generalize sgs = SG at *
  generalize (⟨#[c]⟩ : Str) = SC at *
  walk_at "gd"
end My

namespace My
open PySem PySem.Spec PyProof.Rows L2 GD
structure OS (k n : Nat) (d : D) : Prop where
  lay : d.canLay0 = true
  dep : d.depth ≤ k
  sh : d.showable = true
  sho : d.leavesShort 200 = true
  blk : d.bulk ≤ n
theorem OS.mono {k n k' n' : Nat} {d : D} (h : OS k n d) (a : k ≤ k') (b : n ≤ n') : OS k' n' d := ⟨h.lay, Nat.le_trans h.dep a, h.sh, h.sho, Nat.le_trans h.blk b⟩
theorem OS.all {k n : Nat} : ∀ {ds : List D}, (∀ d ∈ ds, OS k n d) → PyData.canLayAll0 ds = true ∧ PyData.depthAll ds ≤ k ∧ PyData.showableAll ds = true ∧ PyData.leavesShortAll 200 ds = true ∧ PyData.bulkAll ds ≤ (n + 1) * ds.length
  | [], _ => ⟨by rw [PyData.canLayAll0], by rw [PyData.depthAll]; omega, by rw [PyData.showableAll], by rw [PyData.leavesShortAll], by rw [PyData.bulkAll]; omega⟩
  | d :: ds, h => by
    obtain ⟨a, b, c, e, f⟩ := OS.all fun x hx => h x (List.mem_cons_of_mem _ hx)
    have g := h d (List.mem_cons_self ..)
    refine ⟨by rw [PyData.canLayAll0, a, g.lay]; rfl, by rw [PyData.depthAll]; exact Nat.max_le.mpr ⟨g.dep, b⟩, by rw [PyData.showableAll, c, g.sh]; rfl, by rw [PyData.leavesShortAll, e, g.sho]; rfl, ?_⟩
    rw [PyData.bulkAll, List.length_cons, Nat.mul_succ]
    have := g.blk
    omega
theorem OS.list {k n : Nat} {ds : List D} (h : ∀ d ∈ ds, OS k n d) : OS (k + 1) ((n + 1) * ds.length) (.list ds) := by
  obtain ⟨a, b, c, e, f⟩ := OS.all h
  exact ⟨by rw [PyData.canLay0]; exact a, by rw [PyData.depth]; omega, by rw [PyData.showable]; exact c, by rw [PyData.leavesShort]; exact e, by rw [PyData.bulk]; exact f⟩
theorem OS.tuple {k n : Nat} {ds : List D} (h : ∀ d ∈ ds, OS k n d) : OS (k + 1) ((n + 1) * ds.length) (.tuple ds) := by
  obtain ⟨a, b, c, e, f⟩ := OS.all h
  exact ⟨by rw [PyData.canLay0]; exact a, by rw [PyData.depth]; omega, by rw [PyData.showable]; exact c, by rw [PyData.leavesShort]; exact e, by rw [PyData.bulk]; exact f⟩
theorem OS.none : OS 0 0 .none := ⟨by rw [PyData.canLay0], by rw [PyData.depth]; omega, by rw [PyData.showable], by rw [PyData.leavesShort], by rw [PyData.bulk]; omega⟩
theorem OS.ok {k n : Nat} {d : D} (h : OS k n d) (a : k ≤ 60) (b : n ≤ 60000) : okShow d = true := by
  unfold okShow
  rw [h.lay, h.sh, h.sho, decide_eq_true (Nat.le_trans h.dep a), decide_eq_true (Nat.le_trans h.blk b)]; rfl
theorem OS.shaped {k n : Nat} {d : D} (h : OS k n d) (a : k ≤ 60) : SeqAt.shaped d = true := by
  unfold SeqAt.shaped
  rw [h.lay, decide_eq_true (Nat.le_trans h.dep (Nat.le_trans a (by decide)))]; rfl
def N3 (k : Int) : Prop := 0 ≤ k ∧ k ≤ 999
theorem n3_len {k : Int} (h : N3 k) : (nT k).length ≤ 3 := by
  obtain ⟨m, rfl⟩ := Int.eq_ofNat_of_zero_le h.1
  have e : (nT (m : Int)).length = (TL.numL m).length := by rw [TL.len_tl]; exact congrArg List.length (TL.tl_num m)
  rw [e]
  have := h.2
  exact TL.numL_len (by decide) (by omega)
theorem n3_log {k : Int} (h : N3 k) : k.natAbs.log2 < 1920 := by
  have h1 : k.natAbs < 1024 := by have := h.1; have := h.2; omega
  by_cases h0 : k.natAbs = 0
  · rw [h0]; decide
  · have := (Nat.log2_lt h0 (k := 10)).mpr h1; omega
theorem OS.int {k : Int} (h : N3 k) : OS 0 0 (.int k) :=
  ⟨by rw [PyData.canLay0], by rw [PyData.depth]; omega, by rw [PyData.showable]; exact decide_eq_true (n3_log h), by
    rw [PyData.leavesShort]
    exact decide_eq_true (Nat.le_trans (n3_len h) (by decide)), by rw [PyData.bulk]; omega⟩

theorem numO_n3 {x : Str} {i : Int} (h : numO x = some i) : N3 i := by
  unfold numO at h
  split at h
  · rename_i hn
    cases h
    unfold numL3 at hn
    simp only [Bool.and_eq_true, decide_eq_true_eq] at hn
    have := val_lt hn.1.2 hn.1.1.2
    exact ⟨by omega, by omega⟩
  · cases h
theorem itemO_os {w : Str} {r : Row} (h : itemO w = some r) : OS 1 2 (rowD r) := by
  have go : N3 r.1 ∧ ∀ k, r.2 = some k → N3 k := by
    unfold itemO at h
    cases e : TL.par [62, 38] [] (TL.tl w) with
    | none => rw [e] at h; cases h
    | some p =>
      obtain ⟨a, b⟩ := p
      rw [e] at h
      simp only [itemP, Option.bind_eq_some_iff] at h
      obtain ⟨n, h1, h2⟩ := h
      split at h2
      · cases h2; exact ⟨numO_n3 h1, fun k hk => by cases hk⟩
      · simp only [Option.map_eq_some_iff] at h2
        obtain ⟨m, h3, h4⟩ := h2
        cases h4
        exact ⟨numO_n3 h1, fun k hk => by cases hk; exact numO_n3 h3⟩
  obtain ⟨n, o⟩ := r
  refine (OS.tuple (k := 0) (n := 0) (ds := [.int n, oI o]) fun d hd => ?_).mono (Nat.le_refl _) (by simp)
  simp only [List.mem_cons, List.not_mem_nil, or_false] at hd
  rcases hd with rfl | rfl
  · exact OS.int go.1
  · cases o with
    | none => exact OS.none
    | some k => exact OS.int (go.2 k rfl)
theorem allO_os : ∀ {ws : List Str} {rows : List Row}, allO ws = some rows → ∀ r ∈ rows, OS 1 2 (rowD r)
  | [], rows, h => by cases h; intro r hr; cases hr
  | w :: ws, rows, h => by
    simp only [allO, Option.bind_eq_some_iff, Option.map_eq_some_iff] at h
    obtain ⟨r, h1, l, h2, rfl⟩ := h
    intro q hq
    rcases List.mem_cons.mp hq with rfl | hq
    · exact itemO_os h1
    · exact allO_os h2 q hq
theorem due_show {x : Str} {rows : List Row} (h : dueO x = some rows) : okShow (.list [.list (rows.map rowD)]) = true := by
  unfold dueO at h
  simp only [Option.bind_eq_some_iff] at h
  obtain ⟨rows', h1, h2⟩ := h
  split at h2
  · rename_i hl
    cases h2
    have h3 := allO_os h1
    have a : OS 2 (3 * (rows.map rowD).length) (.list (rows.map rowD)) := OS.list fun d hd => by
      obtain ⟨r, hr, rfl⟩ := List.mem_map.mp hd
      exact h3 r hr
    have a2 : OS 2 600 (.list (rows.map rowD)) := a.mono (Nat.le_refl _) (by rw [List.length_map]; omega)
    have b : OS 3 (601 * [PyData.list (rows.map rowD)].length) (.list [.list (rows.map rowD)]) := OS.list fun d hd => by rw [List.mem_singleton.mp hd]; exact a2
    exact b.ok (by omega) (by simp)
  · cases h2
def OkL (d : D) : Prop := kIs_str d = some false ∨ ∃ x, d = .str x ∧ Pl 700000 x
abbrev RB1 : EvS := (sIf (tVal (eOp dNe (eCa cRepr (aCons (eX (xCall m__law_heard (aCons (eGive 4) aNil))) aNil)) (eCa cRepr (aCons (eX (xCall m__law_rows_due (aCons (eGive 4) aNil))) aNil)))) (sRetX (xE (eC (.bool false)))) sNext)
abbrev R4 : EvS := RB1
theorem read_step (d : D) (hd : OkL d) (e0 : Option Sl) (o1 o2 o3 o5 : Option Sl) : R4 [e0, o1, o2, o3, some (.shr d), o5] = some (.nx, [e0, o1, o2, o3, some (.shr d), o5]) := by
  have s0 : okShow (.list []) = true := by decide +kernel
  have q0 : ∀ y : Str, decide (y = y) = true := fun y => decide_eq_true rfl
  unfold R4
  rcases hd with h | ⟨x, rfl, hx⟩
  · have h1 := heard_bad d (parse_not d h)
    have h2 := rows_not d h
    clear h
    walk_at "gd"
  · have hp := parse_ok x hx.1 (by have := hx.2; omega)
    have hr := rows_ok x hx.1 (by have := hx.2; omega)
    unfold dueL at hr
    clear hx
    cases hdue : dueO x with
    | none =>
      rw [hdue] at hp hr
      have h1 := heard_bad (.str x) hp
      dsimp only at hr
      clear hp hdue
      walk_at "gd"
    | some rows =>
      rw [hdue] at hp hr
      have h1 := heard_good (.str x) _ hp
      have s1 := due_show hdue
      dsimp only at hr
      clear hp hdue
      generalize rows.map rowD = RS at *
      walk_at "gd"
theorem read_loop : ∀ (ds : List D), (∀ d ∈ ds, OkL d) → ∀ (e0 o1 o2 o3 o4 o5 : Option Sl), ∃ o4' : Option Sl, forE (gN 4) R4 ds [e0, o1, o2, o3, o4, o5] = some (.nx, [e0, o1, o2, o3, o4', o5])
  | [], _, e0, o1, o2, o3, o4, o5 => ⟨o4, rfl⟩
  | d :: ds, h, e0, o1, o2, o3, o4, o5 => by
    have hs := read_step d (h d (List.mem_cons_self ..)) e0 o1 o2 o3 o5
    obtain ⟨p, ih⟩ := read_loop ds (fun x hx => h x (List.mem_cons_of_mem _ hx)) e0 o1 o2 o3 (some (.shr d)) o5
    refine ⟨p, ?_⟩
    rw [q_forc]
    show forK (gN 4) R4 ds (R4 [e0, o1, o2, o3, some (.shr d), o5]) = _
    rw [hs, q_fork1, ih]
abbrev RA1 : EvS := (sSetX 4 (xCall m__law_drawn_text (aCons (eVar 1) aNil)))
abbrev RA2 : EvS := (sSetX 5 (xCall m__law_bent_text (aCons (eVar 1) (aCons (eGive 4) aNil))))
abbrev RA3 : EvS := (sSetX 2 (xOp dAddX (eVar 2) (eX (xM (eLst (aCons (eGive 4) (aCons (eGive 5) (aCons (eX (xCall m__law_bent_text (aCons (eVar 1) (aCons (eGive 5) aNil)))) aNil))))))))
abbrev R3 : EvS := (sSeq RA1 (sSeq RA2 RA3))
theorem round_loop (ns : List Int) : ∀ (ds : List D) (LS : List D) (idx great : Int) (o3 o4 o5 : Option Sl), 0 ≤ idx → idx + 150 * ds.length < 1048570 → 0 ≤ great → (∀ d ∈ LS, OkL d) → LS.length + 3 * ds.length ≤ 1000 →
    ∃ (LS' : List D) (idx' great' : Int) (o3' o4' o5' : Option Sl), forE (gN 3) R3 ds [none, some (.own false (pen ns idx great)), some (.own false (.l LS)), o3, o4, o5] = some (.nx, [none, some (.own false (pen ns idx' great')), some (.own false (.l LS')), o3', o4', o5']) ∧ (∀ d ∈ LS', OkL d) ∧ LS'.length ≤ 1000
  | [], LS, idx, great, o3, o4, o5, h0, h1, hg, hl, hn => ⟨LS, idx, great, o3, o4, o5, rfl, hl, by simpa using hn⟩
  | d :: ds, LS, idx, great, o3, o4, o5, h0, h1, hg, hl, hn => by
    simp only [List.length_cons] at h1 hn
    obtain ⟨x, i1, g1, e1, p1, a1, b1, c1⟩ := drawn_text_ok ns idx great h0 (by omega) hg
    obtain ⟨y, i2, g2, e2, p2, a2, b2, c2⟩ := bent_ok ns i1 g1 x 200 p1 (by omega) (by omega) (by omega) c1
    obtain ⟨z, i3, g3, e3, p3, a3, b3, c3⟩ := bent_ok ns i2 g2 y 630 p2 (by omega) (by omega) (by omega) c2
    have hs : dAddX (.list LS) (.list [.str x, .str y, .str z]) = some (.inr (.l (LS ++ [.str x, .str y, .str z]))) := c_addL (by simp only [List.length_cons, List.length_nil]; omega)
    have hl2 : ∀ d ∈ LS ++ [.str x, .str y, .str z], OkL d := by
      intro d hd
      rcases List.mem_append.mp hd with hd | hd
      · exact hl d hd
      · simp only [List.mem_cons, List.not_mem_nil, or_false] at hd
        rcases hd with rfl | rfl | rfl
        · exact .inr ⟨_, rfl, p1.mono (by omega)⟩
        · exact .inr ⟨_, rfl, p2.mono (by omega)⟩
        · exact .inr ⟨_, rfl, p3.mono (by omega)⟩
    obtain ⟨LS', i', g', q3, q4, q5, ih, hl3, hn3⟩ := round_loop ns ds (LS ++ [.str x, .str y, .str z]) i3 g3 (some (.shr d)) (some (.shr (.str x))) (some (.shr (.str y))) (by omega) (by omega) c3 hl2 (by rw [List.length_append]; simp only [List.length_cons, List.length_nil]; omega)
    refine ⟨LS', i', g', q3, q4, q5, ?_, hl3, hn3⟩
    rw [← ih]
    clear ih hl hl2 hl3 p1 p2 p3
    generalize LS ++ [.str x, .str y, .str z] = L2 at *
    walk_at "gd"
theorem rep_one (d : D) : ∀ n, repD n [d] = List.replicate n d
  | 0 => rfl
  | n + 1 => by
    show _ = d :: List.replicate n d
    rw [← rep_one d n]
    rfl
theorem join_rep (n : Nat) (h : n ≤ 300) : Pl 1500 (Txt.join (" " : Str) (List.replicate n ("3>&1" : Str))) ∧ dMulX (.list [.str ("3>&1" : Str)]) (.int (n : Int)) = some (.inr (.l ((List.replicate n ("3>&1" : Str)).map .str))) ∧
    mJoin (.str (" " : Str)) [.list ((List.replicate n ("3>&1" : Str)).map .str)] = some (.str (Txt.join (" " : Str) (List.replicate n ("3>&1" : Str)))) := by
  have p : Pl 4 ("3>&1" : Str) := lit_pl _ _ (by decide) (by decide)
  have hall : ∀ w ∈ List.replicate n ("3>&1" : Str), Pl 4 w := fun w hw => by rw [List.eq_of_mem_replicate hw]; exact p
  have hw : wt (List.replicate n ("3>&1" : Str)) ≤ 5 * n := by
    have := wt_le (k := 4) (ws := List.replicate n ("3>&1" : Str)) fun w hw => (hall w hw).2
    rw [List.length_replicate] at this
    exact this
  refine ⟨(join_pl fun w hw => (hall w hw).1).mono (by omega), ?_, join_ok (by omega)⟩
  rw [c_mulX (by omega) (by omega) (by simp only [List.length_cons, List.length_nil]; omega), Int.toNat_natCast, rep_one, List.map_replicate]
theorem math : ∀ ns : List Int, ns.length ≤ 63 → ∃ env', b_law (penv 6 ns) = some (.rt (.val (.bool true)), env') := by
  intro ns _
  have e0 : penv 6 ns = [none, some (.own false (pen ns 0 0)), none, none, none, none] := rfl
  obtain ⟨p200, m200, j200⟩ := join_rep 200 (by omega)
  obtain ⟨p201, m201, j201⟩ := join_rep 201 (by omega)
  have lit : ∀ x : Str, (TL.tl x).all (fun c => decide (c < 128)) = true → decide (x.length ≤ 100) = true → OkL (.str x) := fun x h1 h2 => .inr ⟨x, rfl, lit_pl x _ h1 (by have := of_decide_eq_true h2; omega)⟩
  generalize hB : ([.none, .int 0, .list [], .list [.str ("1>&2" : Str)], .tuple [.str ("1>&2" : Str)], .dict [], .bool true, .str ("" : Str), .str (" " : Str), .str ("1>&2" : Str), .str ("999>&999" : Str), .str ("1000>&1" : Str), .str ("0>&-" : Str), .str ("1>&2 " : Str)] : List D) = B
  have hBok : ∀ d ∈ B, OkL d := by
    rw [← hB]
    intro d hd
    simp only [List.mem_cons, List.not_mem_nil, or_false] at hd
    rcases hd with rfl | rfl | rfl | rfl | rfl | rfl | rfl | rfl | rfl | rfl | rfl | rfl | rfl | rfl
    all_goals first
      | exact .inl rfl
      | exact lit _ (by decide) (by decide)
  have hBn : B.length = 14 := by rw [← hB]; rfl
  generalize Txt.join (" " : Str) (List.replicate 200 ("3>&1" : Str)) = J1 at *
  generalize Txt.join (" " : Str) (List.replicate 201 ("3>&1" : Str)) = J2 at *
  generalize (List.replicate 200 ("3>&1" : Str)).map PyData.str = W1 at *
  generalize (List.replicate 201 ("3>&1" : Str)).map PyData.str = W2 at *
  have hs : dAddX (.list B) (.list [.str J1, .str J2]) = some (.inr (.l (B ++ [.str J1, .str J2]))) := c_addL (by rw [hBn]; simp)
  have hl : ∀ d ∈ B ++ [.str J1, .str J2], OkL d := by
    intro d hd
    rcases List.mem_append.mp hd with hd | hd
    · exact hBok d hd
    · simp only [List.mem_cons, List.not_mem_nil, or_false] at hd
      rcases hd with rfl | rfl
      · exact .inr ⟨_, rfl, p200.mono (by omega)⟩
      · exact .inr ⟨_, rfl, p201.mono (by omega)⟩
  obtain ⟨LS', i', g', q3, q4, q5, ih, hl3, hn3⟩ := round_loop ns (rangeD 0 8) (B ++ [.str J1, .str J2]) 0 0 none none none (by omega) (by rw [range_len]; omega) (by omega) hl (by rw [range_len, List.length_append, hBn]; simp)
  obtain ⟨p, ih2⟩ := read_loop LS' hl3 none (some (.own false (pen ns i' g'))) (some (.shr (.list LS'))) q3 q4 q5
  rw [e0]
  have hB1 : B.length ≤ 1000000 := by omega
  clear p200 p201 lit hBok hBn hl hl3 hn3
  generalize B ++ [.str J1, .str J2] = L2 at *
  have m200 : dMulX (.list [.str ("3>&1" : Str)]) (.int 200) = some (.inr (.l W1)) := m200
  have m201 : dMulX (.list [.str ("3>&1" : Str)]) (.int 201) = some (.inr (.l W2)) := m201
  refine ⟨[none, some (.own false (pen ns i' g')), some (.shr (.list LS')), q3, p, q5], ?_⟩
  unfold b_law
  unfold R3 at ih
  unfold R4 at ih2
  walk_at "gd"
end My

namespace My
open PySem PySem.Spec PyProof.Rows L2 GD GDX
theorem all_mk {l : PySem.W.OpenLaw} {w : World} {K : PySem.W.Frag} {h : Heap} {mg : Str → Option Value} {fa f0 f1 f2 f3 f4 f5 f6 f7 f8 f9 f10 : Addr} (X : K.In h) (G : h.Ns mainGlobals mg) (hfa : mg "law" = some (.ref fa))
    {od0 an0 od1 an1 od2 an2 od3 an3 od4 an4 od5 an5 od6 an6 od7 an7 od8 an8 od9 an9 od10 an10 : Option Addr} {sl0 sl1 sl2 sl3 sl4 sl5 sl6 sl7 sl8 sl9 sl10 : Array (Option Value)} {oc0 kV0 dc0 pm0 cd0 ct0 oc1 kV1 dc1 pm1 cd1 ct1 oc2 kV2 dc2 pm2 cd2 ct2 oc3 kV3 dc3 pm3 cd3 ct3 oc4 kV4 dc4 pm4 cd4 ct4 oc5 kV5 dc5 pm5 cd5 ct5 oc6 kV6 dc6 pm6 cd6 ct6 oc7 kV7 dc7 pm7 cd7 ct7 oc8 kV8 dc8 pm8 cd8 ct8 oc9 kV9 dc9 pm9 cd9 ct9 oc10 kV10 dc10 pm10 cd10 ct10 : Value} {t_MOST_ITEMS t_MOST_DIGITS t_DIGITS t_TO t_FREED : Tok}
    (a0 : PySem.W.nsIn K mainGlobals "slot_in" = some (some (.ref f0))) (l0 : K.lookup f0 = some ⟨oc0, od0, .func (PySem.W.fnOf "slot_in" "slot_in" (defArgs s_slot_in) (defBody s_slot_in) (defScope s_slot_in) .none kV0 dc0 pm0 an0 cd0 ct0), sl0⟩) (c0 : PySem.W.codeIn K cd0 "slot_in" = true) (k0 : PySem.W.keepIn K (.ref f0) = true)
    (a1 : PySem.W.nsIn K mainGlobals "item_in" = some (some (.ref f1))) (l1 : K.lookup f1 = some ⟨oc1, od1, .func (PySem.W.fnOf "item_in" "item_in" (defArgs s_item_in) (defBody s_item_in) (defScope s_item_in) .none kV1 dc1 pm1 an1 cd1 ct1), sl1⟩) (c1 : PySem.W.codeIn K cd1 "item_in" = true) (k1 : PySem.W.keepIn K (.ref f1) = true)
    (a2 : PySem.W.nsIn K mainGlobals "parse_redirections" = some (some (.ref f2))) (l2 : K.lookup f2 = some ⟨oc2, od2, .func (PySem.W.fnOf "parse_redirections" "parse_redirections" (defArgs s_parse_redirections) (defBody s_parse_redirections) (defScope s_parse_redirections) .none kV2 dc2 pm2 an2 cd2 ct2), sl2⟩) (c2 : PySem.W.codeIn K cd2 "parse_redirections" = true) (k2 : PySem.W.keepIn K (.ref f2) = true)
    (a3 : PySem.W.nsIn K mainGlobals "_law_make_deck" = some (some (.ref f3))) (l3 : K.lookup f3 = some ⟨oc3, od3, .func (PySem.W.fnOf "_law_make_deck" "_law_make_deck" (defArgs s__law_make_deck) (defBody s__law_make_deck) (defScope s__law_make_deck) .none kV3 dc3 pm3 an3 cd3 ct3), sl3⟩) (c3 : PySem.W.codeIn K cd3 "_law_make_deck" = true) (k3 : PySem.W.keepIn K (.ref f3) = true)
    (a4 : PySem.W.nsIn K mainGlobals "_law_draw" = some (some (.ref f4))) (l4 : K.lookup f4 = some ⟨oc4, od4, .func (PySem.W.fnOf "_law_draw" "_law_draw" (defArgs s__law_draw) (defBody s__law_draw) (defScope s__law_draw) .none kV4 dc4 pm4 an4 cd4 ct4), sl4⟩) (c4 : PySem.W.codeIn K cd4 "_law_draw" = true) (k4 : PySem.W.keepIn K (.ref f4) = true)
    (a5 : PySem.W.nsIn K mainGlobals "_law_number_due" = some (some (.ref f5))) (l5 : K.lookup f5 = some ⟨oc5, od5, .func (PySem.W.fnOf "_law_number_due" "_law_number_due" (defArgs s__law_number_due) (defBody s__law_number_due) (defScope s__law_number_due) .none kV5 dc5 pm5 an5 cd5 ct5), sl5⟩) (c5 : PySem.W.codeIn K cd5 "_law_number_due" = true) (k5 : PySem.W.keepIn K (.ref f5) = true)
    (a6 : PySem.W.nsIn K mainGlobals "_law_rows_due" = some (some (.ref f6))) (l6 : K.lookup f6 = some ⟨oc6, od6, .func (PySem.W.fnOf "_law_rows_due" "_law_rows_due" (defArgs s__law_rows_due) (defBody s__law_rows_due) (defScope s__law_rows_due) .none kV6 dc6 pm6 an6 cd6 ct6), sl6⟩) (c6 : PySem.W.codeIn K cd6 "_law_rows_due" = true) (k6 : PySem.W.keepIn K (.ref f6) = true)
    (a7 : PySem.W.nsIn K mainGlobals "_law_heard" = some (some (.ref f7))) (l7 : K.lookup f7 = some ⟨oc7, od7, .func (PySem.W.fnOf "_law_heard" "_law_heard" (defArgs s__law_heard) (defBody s__law_heard) (defScope s__law_heard) .none kV7 dc7 pm7 an7 cd7 ct7), sl7⟩) (c7 : PySem.W.codeIn K cd7 "_law_heard" = true) (k7 : PySem.W.keepIn K (.ref f7) = true)
    (a8 : PySem.W.nsIn K mainGlobals "_law_drawn_text" = some (some (.ref f8))) (l8 : K.lookup f8 = some ⟨oc8, od8, .func (PySem.W.fnOf "_law_drawn_text" "_law_drawn_text" (defArgs s__law_drawn_text) (defBody s__law_drawn_text) (defScope s__law_drawn_text) .none kV8 dc8 pm8 an8 cd8 ct8), sl8⟩) (c8 : PySem.W.codeIn K cd8 "_law_drawn_text" = true) (k8 : PySem.W.keepIn K (.ref f8) = true)
    (a9 : PySem.W.nsIn K mainGlobals "_law_bent_text" = some (some (.ref f9))) (l9 : K.lookup f9 = some ⟨oc9, od9, .func (PySem.W.fnOf "_law_bent_text" "_law_bent_text" (defArgs s__law_bent_text) (defBody s__law_bent_text) (defScope s__law_bent_text) .none kV9 dc9 pm9 an9 cd9 ct9), sl9⟩) (c9 : PySem.W.codeIn K cd9 "_law_bent_text" = true) (k9 : PySem.W.keepIn K (.ref f9) = true)
    (a10 : PySem.W.nsIn K mainGlobals "law" = some (some (.ref f10))) (l10 : K.lookup f10 = some ⟨oc10, od10, .func (PySem.W.fnOf "law" "law" (defArgs s_law) (defBody s_law) (defScope s_law) .none kV10 dc10 pm10 an10 cd10 ct10), sl10⟩) (c10 : PySem.W.codeIn K cd10 "law" = true) (k10 : PySem.W.keepIn K (.ref f10) = true)
    (z0 : PySem.W.nsIn K mainGlobals "abs" = some none)
    (z1 : PySem.W.nsIn K mainGlobals "all" = some none)
    (z2 : PySem.W.nsIn K mainGlobals "int" = some none)
    (z3 : PySem.W.nsIn K mainGlobals "isinstance" = some none)
    (z4 : PySem.W.nsIn K mainGlobals "len" = some none)
    (z5 : PySem.W.nsIn K mainGlobals "list" = some none)
    (z6 : PySem.W.nsIn K mainGlobals "range" = some none)
    (z7 : PySem.W.nsIn K mainGlobals "repr" = some none)
    (z8 : PySem.W.nsIn K mainGlobals "str" = some none)
    (y0 : PySem.W.nsIn K mainGlobals "MOST_ITEMS" = some (some (.int 200 t_MOST_ITEMS)))
    (y1 : PySem.W.nsIn K mainGlobals "MOST_DIGITS" = some (some (.int 3 t_MOST_DIGITS)))
    (y2 : PySem.W.nsIn K mainGlobals "DIGITS" = some (some (.str "0123456789" t_DIGITS)))
    (y3 : PySem.W.nsIn K mainGlobals "TO" = some (some (.str ">&" t_TO)))
    (y4 : PySem.W.nsIn K mainGlobals "FREED" = some (some (.str "-" t_FREED)))
    (csp : PySem.W.specialIn K (.builtin "object.__class__") "__get__" = some (some (.builtin "getset_descriptor.__get__"))) (ctk : PySem.W.takesIn K (.builtin "object.__class__") = some true)
    {xc0 xi0 yc0 yc1 yc2 yc3 yc4 yc5 : Addr}
    (ya0 : PySem.W.nsIn K mainGlobals "TableError" = some (some (.ref yc0))) (yh0 : PySem.W.hasDictIn K yc0 = true) (yt0 : PySem.W.typeIn K (.ref yc0) = some (.type "type")) (ye0 : PySem.W.subIn K (.ref yc0) (.type "BaseException") = some true)
    (ya1 : PySem.W.nsIn K mainGlobals "FreeSlot" = some (some (.ref yc1))) (yh1 : PySem.W.hasDictIn K yc1 = true) (yt1 : PySem.W.typeIn K (.ref yc1) = some (.type "type")) (ye1 : PySem.W.subIn K (.ref yc1) (.type "BaseException") = some true)
    (ya2 : PySem.W.nsIn K mainGlobals "TableFull" = some (some (.ref yc2))) (yh2 : PySem.W.hasDictIn K yc2 = true) (yt2 : PySem.W.typeIn K (.ref yc2) = some (.type "type")) (ye2 : PySem.W.subIn K (.ref yc2) (.type "BaseException") = some true)
    (ya3 : PySem.W.nsIn K mainGlobals "InvalidRow" = some (some (.ref yc3))) (yh3 : PySem.W.hasDictIn K yc3 = true) (yt3 : PySem.W.typeIn K (.ref yc3) = some (.type "type")) (ye3 : PySem.W.subIn K (.ref yc3) (.type "BaseException") = some true)
    (ya4 : PySem.W.nsIn K mainGlobals "InvalidScript" = some (some (.ref yc4))) (yh4 : PySem.W.hasDictIn K yc4 = true) (yt4 : PySem.W.typeIn K (.ref yc4) = some (.type "type")) (ye4 : PySem.W.subIn K (.ref yc4) (.type "BaseException") = some true)
    (ya5 : PySem.W.nsIn K mainGlobals "InvalidTable" = some (some (.ref yc5))) (yh5 : PySem.W.hasDictIn K yc5 = true) (yt5 : PySem.W.typeIn K (.ref yc5) = some (.type "type")) (ye5 : PySem.W.subIn K (.ref yc5) (.type "BaseException") = some true)
    {xnm0 xq0 : Str} {xN0 : Addr} {xbs0 xsub0 : List Value} {xsn0 : List Str} {xab0 : Bool} {xcol0 : Option Bool} {xdd0 : Option Addr} {xm00 xm10 xm20 xm30 xm50 : Option Value}
    {xoc0 xkV0 xdc0 xpm0 xcd0 xct0 : Value} {xod0 xan0 : Option Addr} {xsl0 : Array (Option Value)}
    (xa0 : PySem.W.nsIn K mainGlobals "InvalidText" = some (some (.ref xc0)))
    (xL0 : K.lookup xc0 = some (excClassObj xnm0 xq0 xc0 xN0 xbs0 [.ref yc0, .type "ValueError", .type "Exception", .type "BaseException", .type "object"] true xsn0 xsub0 xab0 xcol0 xdd0 xm00 xm10 xm20 xm30 xm50 "ValueError.__new__"))
    (xsa0 : PySem.W.findIn K (.ref xc0) "__setattr__" = some (some (.builtin "object.__setattr__")))
    (xga0 : PySem.W.findIn K (.ref xc0) "__getattribute__" = some (some (.builtin "BaseException.__getattribute__")))
    (xgg0 : PySem.W.findIn K (.ref xc0) "__getattr__" = some none)
    (xno0 : PySem.W.findIn K (.ref xc0) "line" = some none)
    (xic0 : PySem.W.findIn K (.ref xc0) "__init__" = some (some (.ref xi0)))
    (xtc0 : PySem.W.typeIn K (.ref xi0) = some (.type "function"))
    (xkc0 : PySem.W.keepIn K (.ref xc0) = true)
    (xex0 : PySem.W.subIn K (.ref xc0) (.type "BaseException") = some true)
    (xty0 : PySem.W.typeIn K (.ref xc0) = some (.type "type"))
    (xhd0 : PySem.W.hasDictIn K xc0 = true)
    (xcl0 : PySem.W.findIn K (.ref xc0) "__class__" = some (some (.builtin "object.__class__")))
    (xmo0 : PySem.W.mroIn K xc0 (.type "object") = some true)
    (xl0 : K.lookup xi0 = some ⟨xoc0, xod0, .func (PySem.W.fnOf "__init__" "InvalidText.__init__" (defArgs sI_InvalidText) (defBody sI_InvalidText) (defScope sI_InvalidText) .none xkV0 xdc0 xpm0 xan0 xcd0 xct0), xsl0⟩)
    (xco0 : PySem.W.codeIn K xcd0 "InvalidText.__init__" = true)
    (xs0_0 : PySem.W.subIn K (.ref xc0) (.ref xc0) = some true)
    (xs0_1 : PySem.W.subIn K (.ref xc0) (.ref yc0) = some true)
    (xs0_2 : PySem.W.subIn K (.ref xc0) (.ref yc1) = some false)
    (xs0_3 : PySem.W.subIn K (.ref xc0) (.ref yc2) = some false)
    (xs0_4 : PySem.W.subIn K (.ref xc0) (.ref yc3) = some false)
    (xs0_5 : PySem.W.subIn K (.ref xc0) (.ref yc4) = some false)
    (xs0_6 : PySem.W.subIn K (.ref xc0) (.ref yc5) = some false)
    (hm : ∀ ns : List Int, ns.length ≤ 63 → ∃ env', b_law (penv 6 ns) = some (.rt (.val (.bool true)), env')) :
    ∃ fd : FuncData, (∀ (s : Shared) (v : Value), BindsTo s fd ⟨[v], []⟩ [("_law_script", v)]) ∧ ∀ base : Heap, K.In base → base.Ns mainGlobals mg → FnG l.prog w K mg base CX0 5 fa fd ["_law_script"] (spLaw K) := by
  have e := hfa.symm.trans (PySem.W.mg_of X G a10)
  cases e
  have F0 := fun_mk (st := s_slot_in) l0 c0 k0
  have F1 := fun_mk (st := s_item_in) l1 c1 k1
  have F2 := fun_mk (st := s_parse_redirections) l2 c2 k2
  have F3 := fun_mk (st := s__law_make_deck) l3 c3 k3
  have F4 := fun_mk (st := s__law_draw) l4 c4 k4
  have F5 := fun_mk (st := s__law_number_due) l5 c5 k5
  have F6 := fun_mk (st := s__law_rows_due) l6 c6 k6
  have F7 := fun_mk (st := s__law_heard) l7 c7 k7
  have F8 := fun_mk (st := s__law_drawn_text) l8 c8 k8
  have F9 := fun_mk (st := s__law_bent_text) l9 c9 k9
  have F10 := fun_mk (st := s_law) l10 c10 k10
  refine ⟨_, fun s v => .of_eq rfl, fun base _ _ => Txt.ok_law (T := {
    dummy := (),
    a_slot_in := f0,
    d_slot_in := _,
    f_slot_in := F0,
    g_slot_in := PySem.W.mg_of X G a0,
    b_slot_in := (F0.binds fun _ _ _ _ _ _ us hl => match us, hl with | [_], _ => rfl),
    a_item_in := f1,
    d_item_in := _,
    f_item_in := F1,
    g_item_in := PySem.W.mg_of X G a1,
    b_item_in := (F1.binds fun _ _ _ _ _ _ us hl => match us, hl with | [_], _ => rfl),
    a_parse_redirections := f2,
    d_parse_redirections := _,
    f_parse_redirections := F2,
    g_parse_redirections := PySem.W.mg_of X G a2,
    b_parse_redirections := (F2.binds fun _ _ _ _ _ _ us hl => match us, hl with | [_], _ => rfl),
    a__law_make_deck := f3,
    d__law_make_deck := _,
    f__law_make_deck := F3,
    g__law_make_deck := PySem.W.mg_of X G a3,
    b__law_make_deck := (F3.binds fun _ _ _ _ _ _ us hl => match us, hl with | [_], _ => rfl),
    a__law_draw := f4,
    d__law_draw := _,
    f__law_draw := F4,
    g__law_draw := PySem.W.mg_of X G a4,
    b__law_draw := (F4.binds fun _ _ _ _ _ _ us hl => match us, hl with | [_, _], _ => rfl),
    a__law_number_due := f5,
    d__law_number_due := _,
    f__law_number_due := F5,
    g__law_number_due := PySem.W.mg_of X G a5,
    b__law_number_due := (F5.binds fun _ _ _ _ _ _ us hl => match us, hl with | [_], _ => rfl),
    a__law_rows_due := f6,
    d__law_rows_due := _,
    f__law_rows_due := F6,
    g__law_rows_due := PySem.W.mg_of X G a6,
    b__law_rows_due := (F6.binds fun _ _ _ _ _ _ us hl => match us, hl with | [_], _ => rfl),
    a__law_heard := f7,
    d__law_heard := _,
    f__law_heard := F7,
    g__law_heard := PySem.W.mg_of X G a7,
    b__law_heard := (F7.binds fun _ _ _ _ _ _ us hl => match us, hl with | [_], _ => rfl),
    a__law_drawn_text := f8,
    d__law_drawn_text := _,
    f__law_drawn_text := F8,
    g__law_drawn_text := PySem.W.mg_of X G a8,
    b__law_drawn_text := (F8.binds fun _ _ _ _ _ _ us hl => match us, hl with | [_], _ => rfl),
    a__law_bent_text := f9,
    d__law_bent_text := _,
    f__law_bent_text := F9,
    g__law_bent_text := PySem.W.mg_of X G a9,
    b__law_bent_text := (F9.binds fun _ _ _ _ _ _ us hl => match us, hl with | [_, _], _ => rfl),
    n_abs := PySem.W.mg_none_of X G z0,
    n_all := PySem.W.mg_none_of X G z1,
    n_int := PySem.W.mg_none_of X G z2,
    n_isinstance := PySem.W.mg_none_of X G z3,
    n_len := PySem.W.mg_none_of X G z4,
    n_list := PySem.W.mg_none_of X G z5,
    n_range := PySem.W.mg_none_of X G z6,
    n_repr := PySem.W.mg_none_of X G z7,
    n_str := PySem.W.mg_none_of X G z8,
    t_MOST_ITEMS := t_MOST_ITEMS,
    c_MOST_ITEMS := PySem.W.mg_of X G y0,
    t_MOST_DIGITS := t_MOST_DIGITS,
    c_MOST_DIGITS := PySem.W.mg_of X G y1,
    t_DIGITS := t_DIGITS,
    c_DIGITS := PySem.W.mg_of X G y2,
    t_TO := t_TO,
    c_TO := PySem.W.mg_of X G y3,
    t_FREED := t_FREED,
    c_FREED := PySem.W.mg_of X G y4,
    c_InvalidText := xc0,
    i_InvalidText := xi0,
    ns_InvalidText := xa0,
    x_InvalidText := { gC := PySem.W.mg_of X G xa0, ini := ini_of2 tail_TE xL0, ov := ov_of2 tail_TE xL0, sa := xsa0, ga := xga0, gg := xgg0, noN := xno0, iC := xic0, tC := xtc0, kC := xkc0, exC := xex0, tyC := xty0, hdC := xhd0, fn := ⟨sI_InvalidText, _, _, _, _, _, _, _, _, _, _, xl0, xco0, ⟨_, _, rfl⟩, ⟨_, _, _, _, rfl⟩, rfl⟩ },
    ec_InvalidText := ⟨xga0, xgg0, xex0, xhd0, xcl0, csp, ctk, xmo0⟩,
    xf_c_InvalidText := ⟨xga0, xgg0, xex0, xhd0⟩,
    sub_InvalidText_InvalidText := xs0_0,
    sub_InvalidText_TableError := xs0_1,
    sub_InvalidText_FreeSlot := xs0_2,
    sub_InvalidText_TableFull := xs0_3,
    sub_InvalidText_InvalidRow := xs0_4,
    sub_InvalidText_InvalidScript := xs0_5,
    sub_InvalidText_InvalidTable := xs0_6,
    c_TableError := yc0,
    gc_TableError := PySem.W.mg_of X G ya0,
    hd_TableError := yh0,
    ty_TableError := yt0,
    ex_TableError := ye0,
    c_FreeSlot := yc1,
    gc_FreeSlot := PySem.W.mg_of X G ya1,
    hd_FreeSlot := yh1,
    ty_FreeSlot := yt1,
    ex_FreeSlot := ye1,
    c_TableFull := yc2,
    gc_TableFull := PySem.W.mg_of X G ya2,
    hd_TableFull := yh2,
    ty_TableFull := yt2,
    ex_TableFull := ye2,
    c_InvalidRow := yc3,
    gc_InvalidRow := PySem.W.mg_of X G ya3,
    hd_InvalidRow := yh3,
    ty_InvalidRow := yt3,
    ex_InvalidRow := ye3,
    c_InvalidScript := yc4,
    gc_InvalidScript := PySem.W.mg_of X G ya4,
    hd_InvalidScript := yh4,
    ty_InvalidScript := yt4,
    ex_InvalidScript := ye4,
    c_InvalidTable := yc5,
    gc_InvalidTable := PySem.W.mg_of X G ya5,
    hd_InvalidTable := yh5,
    ty_InvalidTable := yt5,
    ex_InvalidTable := ye5 }) F10 hm⟩
end My
open PySem PySem.W PyProof.Rows
set_option maxHeartbeats 0 in
theorem PySem.Challenge.cw_gapdup_k59_texts_of_no_redirections_holds : PySem.Challenge.rw_gapdup_k59_texts_of_no_redirections.Holds := by
  w_on; o_law; k_head; (case hw => w_witness2)
  k_fill
  refine GD.walkG (l := PySem.Challenge.rw_gapdup_k59_texts_of_no_redirections) (n := 63) (k := 5) (x := "_law_script") (CX := fun _ => L2.CX0) (sp := fun w => My.spLaw _) rfl (by decide) rfl ⟨rfl, by decide, by decide⟩ (fun w h Y => PySem.W.kIn_of Y) ?F (fun _ _ a ns hl _ hS => ⟨a, ns, rfl, hS, hl, rfl⟩) (fun _ _ _ _ _ h => h)
  case F =>
    intro w mg fa h KX G hmg
    refine' My.all_mk KX G hmg ?a0 ?l0 ?c0 ?k0 ?a1 ?l1 ?c1 ?k1 ?a2 ?l2 ?c2 ?k2 ?a3 ?l3 ?c3 ?k3 ?a4 ?l4 ?c4 ?k4 ?a5 ?l5 ?c5 ?k5 ?a6 ?l6 ?c6 ?k6 ?a7 ?l7 ?c7 ?k7 ?a8 ?l8 ?c8 ?k8 ?a9 ?l9 ?c9 ?k9 ?a10 ?l10 ?c10 ?k10 ?z0 ?z1 ?z2 ?z3 ?z4 ?z5 ?z6 ?z7 ?z8 ?y0 ?y1 ?y2 ?y3 ?y4 ?csp ?ctk ?ya0 ?yh0 ?yt0 ?ye0 ?ya1 ?yh1 ?yt1 ?ye1 ?ya2 ?yh2 ?yt2 ?ye2 ?ya3 ?yh3 ?yt3 ?ye3 ?ya4 ?yh4 ?yt4 ?ye4 ?ya5 ?yh5 ?yt5 ?ye5 ?xa0 ?xL0 ?xsa0 ?xga0 ?xgg0 ?xno0 ?xic0 ?xtc0 ?xkc0 ?xex0 ?xty0 ?xhd0 ?xcl0 ?xmo0 ?xl0 ?xco0 ?xs0_0 ?xs0_1 ?xs0_2 ?xs0_3 ?xs0_4 ?xs0_5 ?xs0_6 My.math
    (case a0 => k_is); (case l0 => k_is); (case c0 => k_is); (case k0 => k_is); (case a1 => k_is); (case l1 => k_is); (case c1 => k_is); (case k1 => k_is); (case a2 => k_is); (case l2 => k_is); (case c2 => k_is); (case k2 => k_is); (case a3 => k_is); (case l3 => k_is); (case c3 => k_is); (case k3 => k_is); (case a4 => k_is); (case l4 => k_is); (case c4 => k_is); (case k4 => k_is); (case a5 => k_is); (case l5 => k_is); (case c5 => k_is); (case k5 => k_is); (case a6 => k_is); (case l6 => k_is); (case c6 => k_is); (case k6 => k_is); (case a7 => k_is); (case l7 => k_is); (case c7 => k_is); (case k7 => k_is); (case a8 => k_is); (case l8 => k_is); (case c8 => k_is); (case k8 => k_is); (case a9 => k_is); (case l9 => k_is); (case c9 => k_is); (case k9 => k_is); (case a10 => k_is); (case l10 => k_is); (case c10 => k_is); (case k10 => k_is); (case z0 => k_is); (case z1 => k_is); (case z2 => k_is); (case z3 => k_is); (case z4 => k_is); (case z5 => k_is); (case z6 => k_is); (case z7 => k_is); (case z8 => k_is); (case y0 => k_is); (case y1 => k_is); (case y2 => k_is); (case y3 => k_is); (case y4 => k_is); (case csp => k_is); (case ctk => k_is); (case ya0 => k_is); (case yh0 => k_is); (case yt0 => k_is); (case ye0 => k_is); (case ya1 => k_is); (case yh1 => k_is); (case yt1 => k_is); (case ye1 => k_is); (case ya2 => k_is); (case yh2 => k_is); (case yt2 => k_is); (case ye2 => k_is); (case ya3 => k_is); (case yh3 => k_is); (case yt3 => k_is); (case ye3 => k_is); (case ya4 => k_is); (case yh4 => k_is); (case yt4 => k_is); (case ye4 => k_is); (case ya5 => k_is); (case yh5 => k_is); (case yt5 => k_is); (case ye5 => k_is); (case xa0 => k_is); (case xL0 => k_is); (case xsa0 => k_is); (case xga0 => k_is); (case xgg0 => k_is); (case xno0 => k_is); (case xic0 => k_is); (case xtc0 => k_is); (case xkc0 => k_is); (case xex0 => k_is); (case xty0 => k_is); (case xhd0 => k_is); (case xcl0 => k_is); (case xmo0 => k_is); (case xl0 => k_is); (case xco0 => k_is); (case xs0_0 => k_is); (case xs0_1 => k_is); (case xs0_2 => k_is); (case xs0_3 => k_is); (case xs0_4 => k_is); (case xs0_5 => k_is); (case xs0_6 => k_is)

